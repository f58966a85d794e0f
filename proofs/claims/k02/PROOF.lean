import PyProof.Rows.All
import Wide.All
import OpenK.AllK
import Wide.FinOn
import HandS.ForMost
import HandS.ForExc
import HandS.Deep
import HandS.Zip
import HandS.TupAny
import HandS.TupMul
import HandS.IsInst
import HandS.Style
import HandS.Wide
import KE.GoesZip
import HandS.ExcOwn
import HandS.WordsExc
import HandS.ExcIs
import PyProof.StrOps2
import PyProof.EqKinds
import PyProof.FactsAll.dict_1
import KE.DataMinMax
import PySem.Challenge.RW_loopwords_k02_programs
set_option Elab.async false
set_option linter.all false
set_option maxRecDepth 100000
set_option maxHeartbeats 4000000
/-! DL, part a: data without addresses (D), what stands for it in an abstract heap (Rep, Hol), readings over data. -/
namespace DL
open PySem L2

/-- a datum: scalars, tuples, lists that no one changes any more, instances that no one changes any more, the script, a thing that may change (by its number), another address -/
inductive D where
  | non | bl (b : Bool) | int (i : Int) | str (s : Str)
  | tup (ds : List D) | lst (ds : List D)
  | ins (C : Addr) (gs : List (Str × D))
  | scr (ns : List Int) | own (h : Nat) | ref (a : Addr)
/-- what stands under a number -/
inductive DO where
  | lst (ds : List D) | dic (gs : List (Str × D)) | ins (C : Addr) (gs : List (Str × D))
abbrev Own := List (Option DO)
abbrev DSt := List (Option D)

section
variable (K : PySem.W.Frag) (F : Hp) (m : List Addr)
mutual
inductive Rep : V → D → Prop
  | non : Rep .non .non
  | bl (b : Bool) : Rep (.bl b) (.bl b)
  | int (i : Int) : Rep (.int i) (.int i)
  | str (s : Str) : Rep (.str s) (.str s)
  | tup {a : Addr} {xs : List V} {ds : List D} (h : F a = some (.tup xs)) (r : RepL xs ds) : Rep (.ref a) (.tup ds)
  | lst {a : Addr} {xs : List V} {ds : List D} (h : F a = some (.lst xs)) (r : RepL xs ds) : Rep (.ref a) (.lst ds)
  | ins {a C dx : Addr} {fs : List (Str × V)} {gs : List (Str × D)} (h : F a = some (.ins C dx fs)) (r : RepF fs gs) : Rep (.ref a) (.ins C gs)
  | scr {a : Addr} {ns : List Int} (h : SqL K F a (ns.map V.int)) : Rep (.ref a) (.scr ns)
  | own {h : Nat} {a : Addr} (e : m[h]? = some a) : Rep (.ref a) (.own h)
  | ref (a : Addr) : Rep (.ref a) (.ref a)
inductive RepL : List V → List D → Prop
  | nil : RepL [] []
  | cons {v : V} {d : D} {vs : List V} {ds : List D} (r : Rep v d) (t : RepL vs ds) : RepL (v :: vs) (d :: ds)
inductive RepF : List (Str × V) → List (Str × D) → Prop
  | nil : RepF [] []
  | cons {n : Str} {v : V} {d : D} {vs : List (Str × V)} {ds : List (Str × D)} (r : Rep v d) (t : RepF vs ds) : RepF ((n, v) :: vs) ((n, d) :: ds)
end
/-- the pairs of a dict with text keys -/
inductive RepK : List (Key × V) → List (Str × D) → Prop
  | nil : RepK [] []
  | cons {n : Str} {v : V} {d : D} {vs : List (Key × V)} {ds : List (Str × D)} (r : Rep K F m v d) (t : RepK vs ds) : RepK ((Sum.inr n, v) :: vs) ((n, d) :: ds)
inductive RepO : HO → DO → Prop
  | lst {xs : List V} {ds : List D} (r : RepL K F m xs ds) : RepO (.lst xs) (.lst ds)
  | dic {kvs : List (Key × V)} {gs : List (Str × D)} (r : RepK K F m kvs gs) : RepO (.dK kvs) (.dic gs)
  | ins {C dx : Addr} {fs : List (Str × V)} {gs : List (Str × D)} (r : RepF K F m fs gs) : RepO (.ins C dx fs) (.ins C gs)
end

/-- more is known -/
structure Sub (F : Hp) (m : List Addr) (F' : Hp) (m' : List Addr) : Prop where
  ex : ∀ a o, F a = some o → F' a = some o
  pre : m <+: m'
theorem Sub.refl {F : Hp} {m : List Addr} : Sub F m F m := ⟨fun _ _ h => h, List.prefix_refl _⟩
theorem Sub.trans {F F' F'' : Hp} {m m' m'' : List Addr} (a : Sub F m F' m') (b : Sub F' m' F'' m'') : Sub F m F'' m'' := ⟨fun x o h => b.ex x o (a.ex x o h), a.pre.trans b.pre⟩
theorem pre_get {α : Type} {l l' : List α} {i : Nat} {a : α} (p : l <+: l') (h : l[i]? = some a) : l'[i]? = some a := by
  obtain ⟨r, rfl⟩ := p
  obtain ⟨hi, e⟩ := List.getElem?_eq_some_iff.mp h
  rw [List.getElem?_append_left hi]
  exact h

section
variable {K : PySem.W.Frag} {F F' : Hp} {m m' : List Addr}
theorem sqL_mono (s : ∀ a o, F a = some o → F' a = some o) {a : Addr} {xs : List V} (h : SqL K F a xs) : SqL K F' a xs := by
  rcases h with (h | ⟨o, h⟩) | h
  · exact .inl (.inl (s _ _ h))
  · exact .inl (.inr ⟨o, s _ _ h⟩)
  · exact .inr h
mutual
theorem Rep.mono0 (s : Sub F m F' m') : ∀ {v : V} {d : D}, Rep K F m v d → Rep K F' m' v d
  | _, _, .non => .non
  | _, _, .bl b => .bl b
  | _, _, .int i => .int i
  | _, _, .str x => .str x
  | _, _, .tup h r => .tup (s.ex _ _ h) (RepL.mono0 s r)
  | _, _, .lst h r => .lst (s.ex _ _ h) (RepL.mono0 s r)
  | _, _, .ins h r => .ins (s.ex _ _ h) (RepF.mono0 s r)
  | _, _, .scr h => .scr (sqL_mono s.ex h)
  | _, _, .own e => .own (pre_get s.pre e)
  | _, _, .ref a => .ref a
theorem RepL.mono0 (s : Sub F m F' m') : ∀ {v : List V} {d : List D}, RepL K F m v d → RepL K F' m' v d
  | _, _, .nil => .nil
  | _, _, .cons r t => .cons (Rep.mono0 s r) (RepL.mono0 s t)
theorem RepF.mono0 (s : Sub F m F' m') : ∀ {v : List (Str × V)} {d : List (Str × D)}, RepF K F m v d → RepF K F' m' v d
  | _, _, .nil => .nil
  | _, _, .cons r t => .cons (Rep.mono0 s r) (RepF.mono0 s t)
end
theorem RepK.mono0 (s : Sub F m F' m') {v : List (Key × V)} {d : List (Str × D)} (h : RepK K F m v d) : RepK K F' m' v d := by
  induction h with
  | nil => exact .nil
  | cons r _ ih => exact .cons (r.mono0 s) ih
theorem RepO.mono0 (s : Sub F m F' m') {v : HO} {d : DO} (h : RepO K F m v d) : RepO K F' m' v d := by
  cases h with
  | lst r => exact .lst (r.mono0 s)
  | dic r => exact .dic (r.mono0 s)
  | ins r => exact .ins (r.mono0 s)

/-- a step: more is known; what stands outside m is as it was -/
structure Stp (F H : Hp) (m : List Addr) (F' H' : Hp) (m' : List Addr) : Prop where
  ex : ∀ a o, F a = some o → F' a = some o
  pre : m <+: m'
  fr : ∀ a o, H a = some o → a ∉ m → H' a = some o
  nw : ∀ a, a ∈ m' → a ∉ m → H a = none
  nf : ∀ a o, H a = some o → a ∉ m → F a = none → F' a = none
theorem Stp.sub {F H F' H' : Hp} {m m' : List Addr} (s : Stp F H m F' H' m') : Sub F m F' m' := ⟨s.ex, s.pre⟩
theorem Stp.refl {F H : Hp} {m : List Addr} : Stp F H m F H m := ⟨fun _ _ h => h, List.prefix_refl _, fun _ _ h _ => h, fun _ h n => absurd h n, fun _ _ _ _ h => h⟩
theorem Stp.trans {F H F' H' F'' H'' : Hp} {m m' m'' : List Addr} (s : Stp F H m F' H' m') (t : Stp F' H' m' F'' H'' m'') : Stp F H m F'' H'' m'' where
  ex := fun x o h => t.ex x o (s.ex x o h)
  pre := s.pre.trans t.pre
  fr := fun a o h n => by
    refine t.fr a o (s.fr a o h n) fun q => ?_
    have := s.nw a q n
    rw [h] at this
    cases this
  nw := fun a h n => by
    by_cases q : a ∈ m'
    · exact s.nw a q n
    · have e := t.nw a h q
      cases u : H a with
      | none => rfl
      | some o => have := s.fr a o u n; rw [e] at this; cases this
  nf := fun a o h n f => by
    refine t.nf a o (s.fr a o h n) (fun q => ?_) (s.nf a o h n f)
    have := s.nw a q n
    rw [h] at this
    cases this
section
variable {H H' : Hp}
theorem Rep.mono {v : V} {d : D} (r : Rep K F m v d) (s : Stp F H m F' H' m') : Rep K F' m' v d := Rep.mono0 s.sub r
theorem RepL.mono {v : List V} {d : List D} (r : RepL K F m v d) (s : Stp F H m F' H' m') : RepL K F' m' v d := RepL.mono0 s.sub r
theorem RepF.mono {v : List (Str × V)} {d : List (Str × D)} (r : RepF K F m v d) (s : Stp F H m F' H' m') : RepF K F' m' v d := RepF.mono0 s.sub r
theorem RepK.mono {v : List (Key × V)} {d : List (Str × D)} (r : RepK K F m v d) (s : Stp F H m F' H' m') : RepK K F' m' v d := RepK.mono0 s.sub r
theorem RepO.mono {v : HO} {d : DO} (r : RepO K F m v d) (s : Stp F H m F' H' m') : RepO K F' m' v d := RepO.mono0 s.sub r
end

theorem RepL.length {vs : List V} {ds : List D} (h : RepL K F m vs ds) : vs.length = ds.length := by
  induction ds generalizing vs with
  | nil => cases h; rfl
  | cons d ds ih => cases h with | cons r t => rw [List.length_cons, List.length_cons, ih t]
theorem RepL.get {d : D} : ∀ {ds : List D} {vs : List V} {i : Nat}, RepL K F m vs ds → ds[i]? = some d → ∃ v, vs[i]? = some v ∧ Rep K F m v d
  | [], _, _, _, e => by simp at e
  | d0 :: ds, _, 0, .cons r t, e => by simp at e; subst e; exact ⟨_, rfl, r⟩
  | d0 :: ds, _, i + 1, .cons r t, e => by
    obtain ⟨v, e1, e2⟩ := RepL.get (i := i) t (by simpa using e)
    exact ⟨v, by simpa using e1, e2⟩
theorem RepL.get' {v : V} : ∀ {ds : List D} {vs : List V} {i : Nat}, RepL K F m vs ds → vs[i]? = some v → ∃ d, ds[i]? = some d ∧ Rep K F m v d
  | _, _, _, .nil, e => by simp at e
  | _, _, 0, .cons r t, e => by simp at e; subst e; exact ⟨_, rfl, r⟩
  | _, _, i + 1, .cons r t, e => by
    obtain ⟨d, e1, e2⟩ := RepL.get' (i := i) t (by simpa using e)
    exact ⟨d, by simpa using e1, e2⟩
theorem RepL.append {vs ws : List V} {ds es : List D} (h : RepL K F m vs ds) (g : RepL K F m ws es) : RepL K F m (vs ++ ws) (ds ++ es) := by
  induction ds generalizing vs with
  | nil => cases h; exact g
  | cons d ds ih => cases h with | cons r t => exact .cons r (ih t)
theorem RepL.take (n : Nat) {vs : List V} {ds : List D} (h : RepL K F m vs ds) : RepL K F m (vs.take n) (ds.take n) := by
  induction n generalizing vs ds with
  | zero => exact .nil
  | succ n ih => cases h with
    | nil => exact .nil
    | cons r t => exact .cons r (ih t)
theorem RepL.drop (n : Nat) {vs : List V} {ds : List D} (h : RepL K F m vs ds) : RepL K F m (vs.drop n) (ds.drop n) := by
  induction n generalizing vs ds with
  | zero => exact h
  | succ n ih => cases h with
    | nil => exact .nil
    | cons r t => exact ih t
theorem RepL.set {v : V} {d : D} (r : Rep K F m v d) (n : Nat) {vs : List V} {ds : List D} (h : RepL K F m vs ds) : RepL K F m (vs.set n v) (ds.set n d) := by
  induction n generalizing vs ds with
  | zero => cases h with
    | nil => exact .nil
    | cons _ t => exact .cons r t
  | succ n ih => cases h with
    | nil => exact .nil
    | cons r' t => exact .cons r' (ih t)
theorem RepL.reverse {vs : List V} {ds : List D} (h : RepL K F m vs ds) : RepL K F m vs.reverse ds.reverse := by
  induction ds generalizing vs with
  | nil => cases h; exact .nil
  | cons d ds ih => cases h with | cons r t => rw [List.reverse_cons, List.reverse_cons]; exact (ih t).append (.cons r .nil)
theorem RepL.rep {vs : List V} {ds : List D} (h : RepL K F m vs ds) : ∀ k : Nat, RepL K F m (List.replicate k vs).flatten (List.replicate k ds).flatten
  | 0 => .nil
  | k + 1 => by
    rw [List.replicate_succ, List.replicate_succ, List.flatten_cons, List.flatten_cons]
    exact h.append (RepL.rep h k)
theorem RepL.ints {ns : List Int} {vs : List V} (h : RepL K F m vs (ns.map D.int)) : vs = ns.map V.int := by
  induction ns generalizing vs with
  | nil => cases h; rfl
  | cons n ns ih => cases h with | cons r t => cases r; rw [List.map_cons, ih t]
theorem RepL.of_ints : ∀ ns : List Int, RepL K F m (ns.map V.int) (ns.map D.int)
  | [] => .nil
  | n :: ns => .cons (.int n) (RepL.of_ints ns)
theorem RepF.look {f : Str} {d : D} {vs : List (Str × V)} {gs : List (Str × D)} (h : RepF K F m vs gs) (e : gs.lookup f = some d) : ∃ v, vs.lookup f = some v ∧ Rep K F m v d := by
  induction gs generalizing vs with
  | nil => simp at e
  | cons g gs ih =>
    cases h with
    | cons r t =>
      rename_i n v d0 vs
      by_cases q : f = n
      · subst q
        rw [List.lookup_cons_self] at e ⊢
        cases e
        exact ⟨_, rfl, r⟩
      · have b : (f == n) = false := beq_false_of_ne q
        rw [List.lookup_cons, b] at e ⊢
        exact ih t e
theorem RepF.look0 {f : Str} {vs : List (Str × V)} {gs : List (Str × D)} (h : RepF K F m vs gs) (e : gs.lookup f = none) : vs.lookup f = none := by
  induction gs generalizing vs with
  | nil => cases h; rfl
  | cons g gs ih =>
    cases h with
    | cons r t =>
      rename_i n v d0 vs
      by_cases q : f = n
      · subst q
        rw [List.lookup_cons_self] at e
        cases e
      · have b : (f == n) = false := beq_false_of_ne q
        rw [List.lookup_cons, b] at e ⊢
        exact ih t e
theorem RepF.length {vs : List (Str × V)} {gs : List (Str × D)} (h : RepF K F m vs gs) : vs.length = gs.length := by
  induction gs generalizing vs with
  | nil => cases h; rfl
  | cons g gs ih => cases h with | cons r t => rw [List.length_cons, List.length_cons, ih t]
/-- a field stored -/
def putG (f : Str) (v : D) : List (Str × D) → List (Str × D)
  | [] => [(f, v)]
  | (g, w) :: r => if g = f then (g, v) :: r else (g, w) :: putG f v r
theorem RepF.put {f : Str} {v : V} {d : D} (r : Rep K F m v d) {vs : List (Str × V)} {gs : List (Str × D)} (h : RepF K F m vs gs) : RepF K F m (putF f v vs) (putG f d gs) := by
  induction gs generalizing vs with
  | nil => cases h; exact .cons r .nil
  | cons g gs ih =>
    cases h with
    | cons r' t =>
      rename_i n v0 d0 vs
      show RepF K F m (if n = f then _ else _) (if n = f then _ else _)
      by_cases q : n = f
      · rw [if_pos q, if_pos q]; exact .cons r t
      · rw [if_neg q, if_neg q]; exact .cons r' (ih t)
end

/-- F: what no one changes; m: where the things that may change stand; O: what they hold -/
structure Hol (K : PySem.W.Frag) (F H : Hp) (m : List Addr) (O : Own) : Prop where
  ex : ∀ a o, F a = some o → H a = some o
  nd : m.Nodup
  th : ∀ a ∈ m, ∃ o, H a = some o
  len : O.length = m.length
  own : ∀ (h : Nat) (o : DO), O[h]? = some (some o) → ∃ a ho, m[h]? = some a ∧ F a = none ∧ H a = some ho ∧ RepO K F m ho o
structure EnvR (K : PySem.W.Frag) (F : Hp) (m : List Addr) (σ : St) (δ : DSt) : Prop where
  len : σ.length = δ.length
  at_ : ∀ (i : Nat) (d : D), δ[i]? = some (some d) → ∃ v, σ[i]? = some (some v) ∧ Rep K F m v d

section
variable {K : PySem.W.Frag} {F F' H H' : Hp} {m m' : List Addr} {O O' : Own} {σ : St} {δ : DSt}
theorem EnvR.mono (e : EnvR K F m σ δ) (s : Stp F H m F' H' m') : EnvR K F' m' σ δ := ⟨e.len, fun i d h => let ⟨v, a, b⟩ := e.at_ i d h; ⟨v, a, b.mono s⟩⟩
theorem EnvR.set (e : EnvR K F m σ δ) (i : Nat) {v : V} {d : D} (r : Rep K F m v d) : EnvR K F m (σ.set i (some v)) (δ.set i (some d)) := by
  refine ⟨by rw [List.length_set, List.length_set, e.len], fun j d' h => ?_⟩
  by_cases q : i = j
  · subst q
    by_cases hi : i < δ.length
    · rw [List.getElem?_set_self hi] at h
      cases h
      exact ⟨v, by rw [List.getElem?_set_self (by rw [e.len]; exact hi)], r⟩
    · rw [List.set_eq_of_length_le (Nat.le_of_not_lt hi)] at h
      exact absurd (List.getElem?_eq_some_iff.mp h).1 hi
  · rw [List.getElem?_set_ne q] at h ⊢
    exact e.at_ j d' h
theorem Hol.at_ (x : Hol K F H m O) {h : Nat} {o : DO} {a : Addr} (e : O[h]? = some (some o)) (ha : m[h]? = some a) : F a = none ∧ ∃ ho, H a = some ho ∧ RepO K F m ho o := by
  obtain ⟨a', ho, e1, e2, e3, e4⟩ := x.own h o e
  rw [ha] at e1
  cases e1
  exact ⟨e2, ho, e3, e4⟩
/-- a thing is changed -/
theorem Hol.upd (x : Hol K F H m O) {h : Nat} {o0 o : DO} {a : Addr} {ho : HO} (e : O[h]? = some (some o0)) (ha : m[h]? = some a) (r : RepO K F m ho o) : Stp F H m F (L2.upd H a ho) m ∧ Hol K F (L2.upd H a ho) m (O.set h (some o)) := by
  obtain ⟨hf, _⟩ := x.at_ e ha
  refine ⟨⟨fun _ _ h => h, List.prefix_refl _, fun b u q n => by rw [upd_ne (fun z => n (by rw [z]; exact List.mem_of_getElem? ha))]; exact q, fun _ h n => absurd h n, fun _ _ _ _ h => h⟩, fun b u q => ?_, x.nd, fun b hb => ?_, by rw [List.length_set]; exact x.len, fun h' o' e' => ?_⟩
  · rw [upd_ne (ne_of_none q hf)]; exact x.ex b u q
  · by_cases z : b = a
    · exact ⟨ho, by rw [z]; exact upd_same⟩
    · obtain ⟨u, hu⟩ := x.th b hb
      exact ⟨u, by rw [upd_ne z]; exact hu⟩
  · by_cases z : h = h'
    · subst z
      rw [List.getElem?_set_self (List.getElem?_eq_some_iff.mp e).1] at e'
      cases e'
      exact ⟨a, ho, ha, hf, upd_same, r⟩
    · rw [List.getElem?_set_ne z] at e'
      obtain ⟨a', ho', e1, e2, e3, e4⟩ := x.own h' o' e'
      have ne : a' ≠ a := by
        rintro rfl
        obtain ⟨p1, q1⟩ := List.getElem?_eq_some_iff.mp e1
        obtain ⟨p2, q2⟩ := List.getElem?_eq_some_iff.mp ha
        exact z ((List.getElem_inj x.nd).mp (q2.trans q1.symm))
      exact ⟨a', ho', e1, e2, by rw [upd_ne ne]; exact e3, e4⟩
/-- a new thing that may change -/
theorem Hol.new (x : Hol K F H m O) {p : Addr} {ho : HO} {o : DO} (n : H p = none) (r : RepO K F m ho o) : Stp F H m F (L2.upd H p ho) (m ++ [p]) ∧ Hol K F (L2.upd H p ho) (m ++ [p]) (O ++ [some o]) := by
  have s : Stp F H m F (L2.upd H p ho) (m ++ [p]) := ⟨fun _ _ h => h, List.prefix_append _ _, fun a u h _ => by rw [upd_ne (ne_of_none h n)]; exact h, fun a h q => by
    rcases List.mem_append.mp h with h | h
    · exact absurd h q
    · rw [List.mem_singleton] at h; rw [h]; exact n, fun _ _ _ _ h => h⟩
  have np : p ∉ m := fun q => by obtain ⟨u, e⟩ := x.th p q; rw [n] at e; cases e
  have fp : F p = none := by
    cases q : F p with
    | none => rfl
    | some u => have := x.ex p u q; rw [n] at this; cases this
  refine ⟨s, fun b u q => ?_, ?_, fun b hb => ?_, by rw [List.length_append, List.length_append, x.len] <;> rfl, fun h o' e => ?_⟩
  · rw [upd_ne (ne_of_none q fp)]; exact x.ex b u q
  · rw [List.nodup_append]
    exact ⟨x.nd, List.nodup_cons.mpr ⟨List.not_mem_nil, List.nodup_nil⟩, fun a ha b hb e => np (by rw [List.mem_singleton] at hb; rw [← hb, ← e]; exact ha)⟩
  · rcases List.mem_append.mp hb with hb | hb
    · obtain ⟨u, hu⟩ := x.th b hb
      exact ⟨u, by rw [upd_ne (ne_of_none hu n)]; exact hu⟩
    · rw [List.mem_singleton] at hb
      exact ⟨ho, by rw [hb]; exact upd_same⟩
  · by_cases z : h < O.length
    · rw [List.getElem?_append_left z] at e
      obtain ⟨a, ho', e1, e2, e3, e4⟩ := x.own h o' e
      exact ⟨a, ho', pre_get s.pre e1, e2, by rw [upd_ne (ne_of_none e3 n)]; exact e3, e4.mono s⟩
    · rw [List.getElem?_append_right (Nat.le_of_not_lt z)] at e
      have h0 : h - O.length = 0 := by
        cases k : h - O.length with
        | zero => rfl
        | succ k' => rw [k] at e; simp at e
      have hh : h = O.length := by omega
      rw [h0] at e
      cases e
      refine ⟨p, ho, ?_, fp, upd_same, r.mono s⟩
      rw [hh, x.len, List.getElem?_append_right (Nat.le_refl _), Nat.sub_self]
      rfl
/-- a new thing that no one changes -/
theorem Hol.frz (x : Hol K F H m O) {p : Addr} {ho : HO} (n : H p = none) : Stp F H m (L2.upd F p ho) (L2.upd H p ho) m ∧ Hol K (L2.upd F p ho) (L2.upd H p ho) m O := by
  have fp : F p = none := by
    cases q : F p with
    | none => rfl
    | some u => have := x.ex p u q; rw [n] at this; cases this
  have s : Stp F H m (L2.upd F p ho) (L2.upd H p ho) m := ⟨fun a o h => by rw [upd_ne (ne_of_none h fp)]; exact h, List.prefix_refl _, fun a u h _ => by rw [upd_ne (ne_of_none h n)]; exact h, fun _ h q => absurd h q,
    fun a o h _ f => by rw [upd_ne (ne_of_none h n)]; exact f⟩
  refine ⟨s, fun b u q => ?_, x.nd, fun b hb => ?_, x.len, fun h o' e => ?_⟩
  · by_cases z : b = p
    · subst z; rw [upd_same] at q ⊢; exact q
    · rw [upd_ne z] at q ⊢; exact x.ex b u q
  · obtain ⟨u, hu⟩ := x.th b hb
    exact ⟨u, by rw [upd_ne (ne_of_none hu n)]; exact hu⟩
  · obtain ⟨a, ho', e1, e2, e3, e4⟩ := x.own h o' e
    have ne := ne_of_none e3 n
    exact ⟨a, ho', e1, by rw [upd_ne ne]; exact e2, by rw [upd_ne ne]; exact e3, e4.mono s⟩
end
end DL

/-! DL, part b: readings over data and the rules of expressions. -/
namespace DL
open PySem L2

abbrev DE := DSt → Own → (D → Own → Prop) → Prop
abbrev DT := DSt → Own → (Bool → Own → Prop) → Prop
abbrev DA := DSt → Own → (List D → Own → Prop) → Prop
abbrev DOp := Own → D → D → (D → Own → Prop) → Prop
/-- what is wanted behind a statement, over data -/
structure DEnds where
  nx : DSt → Own → Prop
  rt : D → Own → Prop
  bk : DSt → Own → Prop := fun _ _ => False
  ct : DSt → Own → Prop := fun _ _ => False
abbrev DS := DEnds → DSt → Own → Prop

section
variable (K : PySem.W.Frag) (F H : Hp) (m : List Addr)
def Fin (R : D → Own → Prop) (Q : VK) : Prop := ∀ v H' F' m' d O', Stp F H m F' H' m' → Hol K F' H' m' O' → Rep K F' m' v d → R d O' → Q v H'
def FinT (R : Bool → Own → Prop) (Q : Bool → Hp → Prop) : Prop := ∀ b H' F' m' O', Stp F H m F' H' m' → Hol K F' H' m' O' → R b O' → Q b H'
def FinA (R : List D → Own → Prop) (Q : List V → Hp → Prop) : Prop := ∀ vs H' F' m' ds O', Stp F H m F' H' m' → Hol K F' H' m' O' → RepL K F' m' vs ds → R ds O' → Q vs H'
/-- a new list, laid at a free place -/
def FinL (R : List D → Own → Prop) (Q : VK) : Prop := ∀ p H' F' m' xs ds O', Stp F H m F' H' m' → Hol K F' H' m' O' → H' p = none → RepL K F' m' xs ds → R ds O' → Q (.ref p) (L2.upd H' p (.lst xs))
structure FinS (E : DEnds) (D : Ends) : Prop where
  nx : ∀ σ' H' F' m' δ' O', Stp F H m F' H' m' → Hol K F' H' m' O' → EnvR K F' m' σ' δ' → E.nx δ' O' → D.nx σ' H'
  rt : Fin K F H m E.rt D.rt
  bk : ∀ σ' H' F' m' δ' O', Stp F H m F' H' m' → Hol K F' H' m' O' → EnvR K F' m' σ' δ' → E.bk δ' O' → D.bk σ' H'
  ct : ∀ σ' H' F' m' δ' O', Stp F H m F' H' m' → Hol K F' H' m' O' → EnvR K F' m' σ' δ' → E.ct δ' O' → D.ct σ' H'
end
section
variable {K : PySem.W.Frag} {F F' H H' : Hp} {m m' : List Addr} {O : Own}
theorem Fin.mono {R : D → Own → Prop} {Q : VK} (f : Fin K F H m R Q) (s : Stp F H m F' H' m') : Fin K F' H' m' R Q := fun v H1 F1 m1 d O1 s1 h r q => f v H1 F1 m1 d O1 (s.trans s1) h r q
theorem FinT.mono {R : Bool → Own → Prop} {Q : Bool → Hp → Prop} (f : FinT K F H m R Q) (s : Stp F H m F' H' m') : FinT K F' H' m' R Q := fun v H1 F1 m1 O1 s1 h q => f v H1 F1 m1 O1 (s.trans s1) h q
theorem FinA.mono {R : List D → Own → Prop} {Q : List V → Hp → Prop} (f : FinA K F H m R Q) (s : Stp F H m F' H' m') : FinA K F' H' m' R Q := fun v H1 F1 m1 d O1 s1 h r q => f v H1 F1 m1 d O1 (s.trans s1) h r q
theorem FinL.mono {R : List D → Own → Prop} {Q : VK} (f : FinL K F H m R Q) (s : Stp F H m F' H' m') : FinL K F' H' m' R Q := fun p H1 F1 m1 xs d O1 s1 h n r q => f p H1 F1 m1 xs d O1 (s.trans s1) h n r q
theorem FinS.mono {E : DEnds} {D : Ends} (f : FinS K F H m E D) (s : Stp F H m F' H' m') : FinS K F' H' m' E D :=
  ⟨fun a b c d e g s1 => f.nx a b c d e g (s.trans s1), f.rt.mono s, fun a b c d e g s1 => f.bk a b c d e g (s.trans s1), fun a b c d e g s1 => f.ct a b c d e g (s.trans s1)⟩
theorem Fin.here {R : D → Own → Prop} {Q : VK} (f : Fin K F H m R Q) (h : Hol K F H m O) {v : V} {d : D} (r : Rep K F m v d) (q : R d O) : Q v H := f v H F m d O .refl h r q
end
structure Snd (K : PySem.W.Frag) (te : TE) (t : DE) : Prop where
  go : ∀ (σ : L2.St) (H F : Hp) (m : List Addr) (δ : DSt) (O : Own) (R : D → Own → Prop) (Q : VK), Hol K F H m O → EnvR K F m σ δ → t δ O R → Fin K F H m R Q → te σ H Q
structure SndT (K : PySem.W.Frag) (te : TT) (t : DT) : Prop where
  go : ∀ (σ : L2.St) (H F : Hp) (m : List Addr) (δ : DSt) (O : Own) (R : Bool → Own → Prop) (Q : Bool → Hp → Prop), Hol K F H m O → EnvR K F m σ δ → t δ O R → FinT K F H m R Q → te σ H Q
structure SndA (K : PySem.W.Frag) (te : TA) (t : DA) : Prop where
  go : ∀ (σ : L2.St) (H F : Hp) (m : List Addr) (δ : DSt) (O : Own) (R : List D → Own → Prop) (Q : List V → Hp → Prop), Hol K F H m O → EnvR K F m σ δ → t δ O R → FinA K F H m R Q → te σ H Q
structure SndL (K : PySem.W.Frag) (te : TE) (t : DA) : Prop where
  go : ∀ (σ : L2.St) (H F : Hp) (m : List Addr) (δ : DSt) (O : Own) (R : List D → Own → Prop) (Q : VK), Hol K F H m O → EnvR K F m σ δ → t δ O R → FinL K F H m R Q → te σ H Q
structure SndS (K : PySem.W.Frag) (te : TS) (t : DS) : Prop where
  go : ∀ (σ : L2.St) (H F : Hp) (m : List Addr) (δ : DSt) (O : Own) (E : DEnds) (D : Ends), Hol K F H m O → EnvR K F m σ δ → t E δ O → FinS K F H m E D → te D σ H
structure SndO (K : PySem.W.Frag) (r : R2) (f : DOp) : Prop where
  go : ∀ (H F : Hp) (m : List Addr) (O : Own) (x y : V) (a b : D) (R : D → Own → Prop) (Q : VK), Hol K F H m O → Rep K F m x a → Rep K F m y b → f O a b R → Fin K F H m R Q → r x y H Q

structure PD (X : Cx) (e : Expr) (te : TE) (t : DE) : Prop where
  pe : PE X e te
  sn : Snd X.K te t
structure PDT (X : Cx) (e : Expr) (te : TT) (t : DT) : Prop where
  pe : PT X e te
  sn : SndT X.K te t
structure PDW (X : Cx) (e : Expr) (te : TT) (t : DT) : Prop where
  pe : PW X e te
  sn : SndT X.K te t
structure PDA (X : Cx) (es : List Expr) (te : TA) (t : DA) : Prop where
  pe : PA X es te
  sn : SndA X.K te t
structure PDL (X : Cx) (e : Expr) (te : TE) (t : DA) : Prop where
  pe : PE X e te
  sn : SndL X.K te t
structure PDS (X : Cx) (st : Stmt) (te : TS) (t : DS) : Prop where
  pe : PS X st te
  sn : SndS X.K te t
structure PDSs (X : Cx) (st : List Stmt) (te : TS) (t : DS) : Prop where
  pe : PSs X st te
  sn : SndS X.K te t

/-! ### names, constants -/
def oK {α : Type} (o : Option α) (k : α → Prop) : Prop := match o with
  | some a => k a
  | none => False
theorem oK.ex {α : Type} {o : Option α} {k : α → Prop} (h : oK o k) : ∃ a, o = some a ∧ k a := by
  cases o with
  | none => exact h.elim
  | some a => exact ⟨a, rfl, h⟩
def dVar (i : Nat) : DE := fun δ O R => match δ[i]? with
  | some (some d) => R d O
  | _ => False
def dC (d : D) : DE := fun _ O R => R d O
section
variable {K : PySem.W.Frag} {X : Cx} {pos : Pos}
theorem snd_var (i : Nat) : Snd K (tVar i) (dVar i) := ⟨fun σ H F m δ O R Q h e t f => by
  unfold dVar at t
  split at t
  · rename_i d q
    obtain ⟨v, e1, r⟩ := e.at_ i d q
    exact ⟨v, e1, f.here h r t⟩
  · exact t.elim⟩
theorem snd_c {v : V} {d : D} (r : ∀ F m, Rep K F m v d) : Snd K (tC v) (dC d) := ⟨fun σ H F m δ O R Q h e t f => f.here h (r F m) t⟩
theorem pdv (i : Nat) {x : Str} (hN : X.N[i]? = some x := by rfl) (hv : Vis X.env.scope x := by first | exact Or.inl rfl | exact Or.inr (Or.inl rfl) | exact Or.inr (Or.inr rfl)) (hd : (x == ("__debug__" : Str)) = false := by decide)
    (hcd : (x == ("__classdict__" : Str)) = false := by decide) : PD X (.Name x pos) (tVar i) (dVar i) := ⟨pe_var hN hv hd hcd, snd_var i⟩
theorem pd_int {i : Int} {j : Nat} : PD X (.Constant (.int i) j pos) (tC (.int i)) (dC (.int i)) := ⟨pe_int, snd_c fun _ _ => .int i⟩
theorem pd_bl {b : Bool} {j : Nat} : PD X (.Constant (.bool b) j pos) (tC (.bl b)) (dC (.bl b)) := ⟨pe_bl, snd_c fun _ _ => .bl b⟩
theorem pd_non {j : Nat} : PD X (.Constant .none j pos) (tC .non) (dC .non) := ⟨pe_non, snd_c fun _ _ => .non⟩
theorem pd_str {x : Str} {j : Nat} : PD X (.Constant (.str x) j pos) (tC (.str x)) (dC (.str x)) := ⟨pe_str, snd_c fun _ _ => .str x⟩
/-- a whole number of the module's -/
theorem pd_gint {x : Str} {n : Int} {t : Tok} (hg : Gl X x) (hm : X.mg x = some (.int n t)) (hd : (x == ("__debug__" : Str)) = false := by decide) : PD X (.Name x pos) (tC (.int n)) (dC (.int n)) :=
  ⟨pe_glob hg hm ⟨t, rfl⟩ hd, snd_c fun _ _ => .int n⟩
end

/-! ### what a datum is as a list, a tuple -/
def asL (O : Own) : D → Option (List D)
  | .lst ds => some ds
  | .own h => match O[h]? with
    | some (some (.lst ds)) => some ds
    | _ => none
  | _ => none
section
variable {K : PySem.W.Frag} {F H : Hp} {m : List Addr} {O : Own}
theorem asL_rep (h : Hol K F H m O) {v : V} {d : D} {ds : List D} (r : Rep K F m v d) (e : asL O d = some ds) : ∃ a xs, v = .ref a ∧ H a = some (.lst xs) ∧ RepL K F m xs ds := by
  cases r with
  | lst q r => cases e; exact ⟨_, _, rfl, h.ex _ _ q, r⟩
  | @own n a q =>
    unfold asL at e
    dsimp only at e
    split at e
    · rename_i ds' q'
      cases e
      obtain ⟨_, ho, e1, e2⟩ := h.at_ q' q
      cases e2 with
      | lst r => exact ⟨a, _, rfl, e1, r⟩
    · cases e
  | _ => cases e
theorem tup_rep (h : Hol K F H m O) {v : V} {ds : List D} (r : Rep K F m v (.tup ds)) : ∃ a xs, v = .ref a ∧ H a = some (.tup xs) ∧ RepL K F m xs ds := by
  cases r with
  | tup q r => exact ⟨_, _, rfl, h.ex _ _ q, r⟩
theorem sz5 {n : Nat} (h : n ≤ 1000000) : n ≤ sizeLine := Nat.le_trans h (by decide)
theorem sz5' {n : Nat} (h : n < 1000000) : n < sizeLine := Nat.lt_of_lt_of_le h (by decide)
/-- a new tuple at a free place -/
theorem Fin.tup {R : D → Own → Prop} {Q : VK} (f : Fin K F H m R Q) (h : Hol K F H m O) {xs : List V} {ds : List D} (r : RepL K F m xs ds) (q : R (.tup ds) O) (p : Addr) (n : H p = none) : Q (.ref p) (L2.upd H p (.tup xs)) := by
  obtain ⟨s, h'⟩ := h.frz (ho := .tup xs) n
  exact f _ _ _ _ _ _ s h' (.tup upd_same (r.mono s)) q
theorem Fin.lst {R : D → Own → Prop} {Q : VK} (f : Fin K F H m R Q) (h : Hol K F H m O) {xs : List V} {ds : List D} (r : RepL K F m xs ds) (q : R (.lst ds) O) (p : Addr) (n : H p = none) : Q (.ref p) (L2.upd H p (.lst xs)) := by
  obtain ⟨s, h'⟩ := h.frz (ho := .lst xs) n
  exact f _ _ _ _ _ _ s h' (.lst upd_same (r.mono s)) q
theorem FinL.lst {R : List D → Own → Prop} {Q : VK} (f : FinL K F H m R Q) (h : Hol K F H m O) {xs : List V} {ds : List D} (r : RepL K F m xs ds) (q : R ds O) (p : Addr) (n : H p = none) : Q (.ref p) (L2.upd H p (.lst xs)) :=
  f p H F m xs ds O .refl h n r q
end
/-! ### new lists: that no one changes; that may change -/
def dFrz (t : DA) : DE := fun δ O R => t δ O fun ds O' => R (.lst ds) O'
def dNew (t : DA) : DE := fun δ O R => t δ O fun ds O' => R (.own O'.length) (O' ++ [some (.lst ds)])
section
variable {X : Cx} {e : Expr} {te : TE} {t : DA}
theorem pd_frz (h : PDL X e te t) : PD X e te (dFrz t) := ⟨h.pe, ⟨fun σ H F m δ O R Q hh en hr f => h.sn.go σ H F m δ O _ Q hh en hr fun p H' F' m' xs ds O' s h1 n r q =>
  (f.mono s).lst h1 r q p n⟩⟩
theorem pd_new (h : PDL X e te t) : PD X e te (dNew t) := ⟨h.pe, ⟨fun σ H F m δ O R Q hh en hr f => h.sn.go σ H F m δ O _ Q hh en hr fun p H' F' m' xs ds O' s h1 n r q => by
  obtain ⟨s2, h2⟩ := h1.new n (.lst r)
  refine f _ _ _ _ _ _ (s.trans s2) h2 (.own ?_) q
  rw [h1.len, List.getElem?_append_right (Nat.le_refl _), Nat.sub_self]
  rfl⟩⟩
end

/-! ### operators -/
def dOp (f : DOp) (ta tb : DE) : DE := fun δ O R => ta δ O fun a O1 => tb δ O1 fun b O2 => f O2 a b R
section
variable {K : PySem.W.Frag} {X : Cx} {a b : Expr} {ta tb : TE} {da db : DE} {r : R2} {f : DOp} {pos : Pos}
theorem snd_op (sr : SndO K r f) (ha : Snd K ta da) (hb : Snd K tb db) : Snd K (tOp r ta tb) (dOp f da db) := ⟨fun σ H F m δ O R Q h e t fn =>
  ha.go σ H F m δ O _ _ h e t fun x H1 F1 m1 p O1 s1 h1 r1 t1 => hb.go σ H1 F1 m1 δ O1 _ _ h1 (e.mono s1) t1 fun y H2 F2 m2 q O2 s2 h2 r2 t2 =>
    sr.go H2 F2 m2 O2 x y p q R Q h2 (r1.mono s2) r2 t2 (fn.mono (s1.trans s2))⟩
theorem pd_op {op : Operator} (ho : OpR X (binaryOp op) r) (sr : SndO X.K r f) (ha : PD X a ta da) (hb : PD X b tb db) : PD X (.BinOp a op b pos) (tOp r ta tb) (dOp f da db) := ⟨pe_op ho ha.pe hb.pe, snd_op sr ha.sn hb.sn⟩
theorem pd_cmp {op : CmpOp} (ho : OpR X (compareOp op) r) (sr : SndO X.K r f) (ha : PD X a ta da) (hb : PD X b tb db) (hm : behindInMarks op b = false) : PD X (.Compare a [op] [b] pos) (tOp r ta tb) (dOp f da db) :=
  ⟨pe_cmpR ho ha.pe hb.pe hm, snd_op sr ha.sn hb.sn⟩
theorem pd_ix (hr : IxR X r) (sr : SndO X.K r f) (ha : PD X a ta da) (hb : PD X b tb db) (hs : PlainIx b) : PD X (.Subscript a b pos) (tOp r ta tb) (dOp f da db) := ⟨pe_ix hr ha.pe hb.pe hs, snd_op sr ha.sn hb.sn⟩
/-- a truth value as a test -/
def asB (d : D) (k : Bool → Prop) : Prop := match d with
  | .bl b => k b
  | _ => False
def dTest (t : DE) : DT := fun δ O R => t δ O fun d O' => asB d fun b => R b O'
theorem snd_test {te : TE} {t : DE} (h : Snd K te t) : SndT K (tTest te) (dTest t) := ⟨fun σ H F m δ O R Q hh e hr fn => h.go σ H F m δ O _ _ hh e hr fun x H1 F1 m1 p O1 s1 h1 r1 t1 => by
  cases r1 with
  | bl k => exact ⟨k, rfl, fn k H1 F1 m1 O1 s1 h1 t1⟩
  | _ => exact t1.elim⟩
theorem pdt_cmp {op : CmpOp} (ho : OpR X (compareOp op) r) (sr : SndO X.K r f) (ha : PD X a ta da) (hb : PD X b tb db) (hm : behindInMarks op b = false) : PDT X (.Compare a [op] [b] pos) (tTest (tOp r ta tb)) (dTest (dOp f da db)) :=
  ⟨pt_cmpR ho ha.pe hb.pe hm, snd_test (snd_op sr ha.sn hb.sn)⟩
theorem pdt_val {e : Expr} {te : TE} {t : DE} (h : PD X e te t) (he : ∀ whole, isTrue e X.env whole = (do let v ← whole; standAt e.pos; holding [v] (truthy v)) := by intro _; rfl) : PDT X e (tB te) (dTest t) := ⟨pt_val h.pe he, snd_test h.sn⟩
/-- two comparisons in a chain -/
def dChain (f f' : DOp) (ta tb tc : DE) : DE := fun δ O R => ta δ O fun a O1 => tb δ O1 fun b O2 => f O2 a b fun z O3 => asB z fun k => if k = true then tc δ O3 (fun c O4 => f' O4 b c R) else R (.bl false) O3
end
end DL

/-! DL, part c: operators over data. -/
namespace DL
open PySem L2

section
variable {K : PySem.W.Frag} {X : Cx} {a b c : Expr} {ta tb tc : TE} {da db dc : DE} {r r' : R2} {f f' : DOp} {pos : Pos}
/-! ### chains, and, or, not -/
theorem snd_chain (sr : SndO K r f) (sr' : SndO K r' f') (ha : Snd K ta da) (hb : Snd K tb db) (hc : Snd K tc dc) : Snd K (tChain r r' ta tb tc) (dChain f f' da db dc) := ⟨fun σ H F m δ O R Q h e t fn =>
  ha.go σ H F m δ O _ _ h e t fun x H1 F1 m1 p O1 s1 h1 r1 t1 => hb.go σ H1 F1 m1 δ O1 _ _ h1 (e.mono s1) t1 fun y H2 F2 m2 q O2 s2 h2 r2 t2 =>
    sr.go H2 F2 m2 O2 x y p q _ _ h2 (r1.mono s2) r2 t2 fun z H3 F3 m3 u O3 s3 h3 r3 t3 => by
      cases r3 with
      | bl k =>
        refine ⟨k, rfl, ?_⟩
        cases k with
        | false => exact fn (.bl false) H3 F3 m3 (.bl false) O3 (s1.trans (s2.trans s3)) h3 (.bl false) t3
        | true => exact hc.go σ H3 F3 m3 δ O3 _ _ h3 (e.mono (s1.trans (s2.trans s3))) t3 fun w H4 F4 m4 v O4 s4 h4 r4 t4 =>
            sr'.go H4 F4 m4 O4 y w q v R Q h4 (r2.mono (s3.trans s4)) r4 t4 (fn.mono (s1.trans (s2.trans (s3.trans s4))))
      | _ => exact t3.elim⟩
theorem pd_chain {op op' : CmpOp} (ho : OpR X (compareOp op) r) (sr : SndO X.K r f) (ho' : OpR X (compareOp op') r') (sr' : SndO X.K r' f') (ha : PD X a ta da) (hb : PD X b tb db) (hc : PD X c tc dc)
    (hm : lastMarks [op, op'] [b, c] = false := by with_unfolding_all rfl) : PD X (.Compare a [op, op'] [b, c] pos) (tChain r r' ta tb tc) (dChain f f' da db dc) := ⟨pe_chain ho ho' ha.pe hb.pe hc.pe hm, snd_chain sr sr' ha.sn hb.sn hc.sn⟩
theorem pdt_chain {op op' : CmpOp} (ho : OpR X (compareOp op) r) (sr : SndO X.K r f) (ho' : OpR X (compareOp op') r') (sr' : SndO X.K r' f') (ha : PD X a ta da) (hb : PD X b tb db) (hc : PD X c tc dc)
    (hm : lastMarks [op, op'] [b, c] = false := by with_unfolding_all rfl) : PDT X (.Compare a [op, op'] [b, c] pos) (tTest (tChain r r' ta tb tc)) (dTest (dChain f f' da db dc)) := ⟨pt_chain ho ho' ha.pe hb.pe hc.pe hm, snd_test (snd_chain sr sr' ha.sn hb.sn hc.sn)⟩

def dAnd (t u : DT) : DT := fun δ O R => t δ O fun k O1 => if k = true then u δ O1 R else R false O1
def dOr (t u : DT) : DT := fun δ O R => t δ O fun k O1 => if k = true then R true O1 else u δ O1 R
def dNot (t : DT) : DT := fun δ O R => t δ O fun k O1 => R (!k) O1
variable {tA tB' : TT} {dA dB : DT} {rest : List Expr}
theorem snd_and (ha : SndT K tA dA) (hb : SndT K tB' dB) : SndT K (tAnd tA tB') (dAnd dA dB) := ⟨fun σ H F m δ O R Q h e t fn => ha.go σ H F m δ O _ _ h e t fun k H1 F1 m1 O1 s1 h1 t1 => by
  cases k with
  | true => exact hb.go σ H1 F1 m1 δ O1 R Q h1 (e.mono s1) t1 (fn.mono s1)
  | false => exact fn false H1 F1 m1 O1 s1 h1 t1⟩
theorem snd_or (ha : SndT K tA dA) (hb : SndT K tB' dB) : SndT K (tOr tA tB') (dOr dA dB) := ⟨fun σ H F m δ O R Q h e t fn => ha.go σ H F m δ O _ _ h e t fun k H1 F1 m1 O1 s1 h1 t1 => by
  cases k with
  | false => exact hb.go σ H1 F1 m1 δ O1 R Q h1 (e.mono s1) t1 (fn.mono s1)
  | true => exact fn true H1 F1 m1 O1 s1 h1 t1⟩
theorem snd_not (ha : SndT K tA dA) : SndT K (tNot tA) (dNot dA) := ⟨fun σ H F m δ O R Q h e t fn => ha.go σ H F m δ O _ _ h e t fun k H1 F1 m1 O1 s1 h1 t1 => fn (!k) H1 F1 m1 O1 s1 h1 t1⟩
theorem PDW.pt {e : Expr} {tt : TT} {t : DT} (h : PDW X e tt t) : PDT X e tt t := ⟨h.pe.pt, h.sn⟩
theorem pdw_and1 (ha : PDT X a tA dA) : PDW X (.BoolOp .And [a] pos) tA dA := ⟨pw_and1 ha.pe, ha.sn⟩
theorem pdw_or1 (ha : PDT X a tA dA) : PDW X (.BoolOp .Or [a] pos) tA dA := ⟨pw_or1 ha.pe, ha.sn⟩
theorem pdw_and (ha : PDT X a tA dA) (hb : PDW X (.BoolOp .And (b :: rest) pos) tB' dB) : PDW X (.BoolOp .And (a :: b :: rest) pos) (tAnd tA tB') (dAnd dA dB) := ⟨pw_and ha.pe hb.pe, snd_and ha.sn hb.sn⟩
theorem pdw_or (ha : PDT X a tA dA) (hb : PDW X (.BoolOp .Or (b :: rest) pos) tB' dB) : PDW X (.BoolOp .Or (a :: b :: rest) pos) (tOr tA tB') (dOr dA dB) := ⟨pw_or ha.pe hb.pe, snd_or ha.sn hb.sn⟩
theorem pdt_not (ha : PDT X a tA dA) : PDT X (.UnaryOp .Not a pos) (tNot tA) (dNot dA) := ⟨pt_not ha.pe, snd_not ha.sn⟩
/-- as values -/
def dAndV (ta tb : DE) : DE := fun δ O R => ta δ O fun x O1 => asB x fun k => if k = true then tb δ O1 R else R (.bl false) O1
def dOrV (ta tb : DE) : DE := fun δ O R => ta δ O fun x O1 => asB x fun k => if k = true then R (.bl true) O1 else tb δ O1 R
def dNotV (ta : DE) : DE := fun δ O R => ta δ O fun x O1 => asB x fun k => R (.bl (!k)) O1
theorem snd_andV (ha : Snd K ta da) (hb : Snd K tb db) : Snd K (tAndV ta tb) (dAndV da db) := ⟨fun σ H F m δ O R Q h e t fn => ha.go σ H F m δ O _ _ h e t fun v H1 F1 m1 p O1 s1 h1 r1 t1 => by
  cases r1 with
  | bl k =>
    refine ⟨k, rfl, ?_⟩
    cases k with
    | true => exact hb.go σ H1 F1 m1 δ O1 R Q h1 (e.mono s1) t1 (fn.mono s1)
    | false => exact fn _ H1 F1 m1 _ O1 s1 h1 (.bl false) t1
  | _ => exact t1.elim⟩
theorem snd_orV (ha : Snd K ta da) (hb : Snd K tb db) : Snd K (tOrV ta tb) (dOrV da db) := ⟨fun σ H F m δ O R Q h e t fn => ha.go σ H F m δ O _ _ h e t fun v H1 F1 m1 p O1 s1 h1 r1 t1 => by
  cases r1 with
  | bl k =>
    refine ⟨k, rfl, ?_⟩
    cases k with
    | false => exact hb.go σ H1 F1 m1 δ O1 R Q h1 (e.mono s1) t1 (fn.mono s1)
    | true => exact fn _ H1 F1 m1 _ O1 s1 h1 (.bl true) t1
  | _ => exact t1.elim⟩
theorem snd_notV (ha : Snd K ta da) : Snd K (tNotV ta) (dNotV da) := ⟨fun σ H F m δ O R Q h e t fn => ha.go σ H F m δ O _ _ h e t fun v H1 F1 m1 p O1 s1 h1 r1 t1 => by
  cases r1 with
  | bl k => exact ⟨k, rfl, fn _ H1 F1 m1 _ O1 s1 h1 (.bl _) t1⟩
  | _ => exact t1.elim⟩
theorem pd_one {op : BoolOp} (h : PD X a ta da) : PD X (.BoolOp op [a] pos) ta da := ⟨pe_one h.pe, h.sn⟩
theorem pd_and (ha : PD X a ta da) (hb : PD X (.BoolOp .And (b :: rest) pos) tb db) : PD X (.BoolOp .And (a :: b :: rest) pos) (tAndV ta tb) (dAndV da db) := ⟨pe_and ha.pe hb.pe, snd_andV ha.sn hb.sn⟩
theorem pd_or (ha : PD X a ta da) (hb : PD X (.BoolOp .Or (b :: rest) pos) tb db) : PD X (.BoolOp .Or (a :: b :: rest) pos) (tOrV ta tb) (dOrV da db) := ⟨pe_or ha.pe hb.pe, snd_orV ha.sn hb.sn⟩
theorem pd_not (ha : PD X a ta da) : PD X (.UnaryOp .Not a pos) (tNotV ta) (dNotV da) := ⟨pe_not ha.pe, snd_notV ha.sn⟩
end

/-! ### numbers -/
def Bd (n : Nat) (i : Int) : Prop := i.natAbs < 2 ^ n
theorem two_le {n k : Nat} (h : n ≤ k) : (2 : Nat) ^ n ≤ 2 ^ k := Nat.pow_le_pow_right (by decide) h
theorem Bd.mono {n k : Nat} {i : Int} (h : Bd n i) (l : n ≤ k) : Bd k i := Nat.lt_of_lt_of_le h (two_le l)
theorem Bd.add {n k : Nat} {i j : Int} (h : Bd n i) (h' : Bd k j) : Bd (n + k + 1) (i + j) := by
  unfold Bd at *
  have a1 := two_le (show n ≤ n + k by omega)
  have a2 := two_le (show k ≤ n + k by omega)
  have e : (2 : Nat) ^ (n + k + 1) = 2 ^ (n + k) + 2 ^ (n + k) := by rw [Nat.pow_succ]; omega
  omega
theorem Bd.add' {n : Nat} {i j : Int} (h : Bd n i) (h' : Bd n j) : Bd (n + 1) (i + j) := by
  unfold Bd at *
  have e : (2 : Nat) ^ (n + 1) = 2 ^ n + 2 ^ n := by rw [Nat.pow_succ]; omega
  omega
theorem Bd.mul {n k : Nat} {i j : Int} (h : Bd n i) (h' : Bd k j) : Bd (n + k) (i * j) := wide_lt h h'
theorem Bd.neg {n : Nat} {i : Int} (h : Bd n i) : Bd n (-i) := by unfold Bd at *; omega
theorem Bd.of {n : Nat} {i : Int} (k : Nat) (h : i.natAbs ≤ k) (l : k < 2 ^ n) : Bd n i := Nat.lt_of_le_of_lt h l
theorem mulOk {i j : Int} (h : Bd 3000 i) (h' : Bd 3000 j) : CMulW i j := wide_mul h h' (by decide) (by decide) (by decide)
/-- what * asks of two numbers -/
def MulOk (i j : Int) : Prop := (Bd 3000 i ∧ Bd 3000 j) ∨ Bd 64 i ∨ Bd 64 j
def CMulB (i j : Int) : Prop := CMulW i j ∨ CMul i j
theorem MulOk.ok {i j : Int} (h : MulOk i j) : CMulB i j := by
  rcases h with h | h | h
  · exact .inl (mulOk h.1 h.2)
  · unfold Bd at h
    exact .inr (.inl ⟨by omega, by omega⟩)
  · unfold Bd at h
    exact .inr (.inr ⟨by omega, by omega⟩)

section
variable {K : PySem.W.Frag} {X : Cx}
def i2 (g : Int → Int → D) : DOp := fun O a b R => match a, b with
  | .int i, .int j => R (g i j) O
  | _, _ => False
def i2c (C : Int → Int → Prop) (g : Int → Int → D) : DOp := fun O a b R => match a, b with
  | .int i, .int j => C i j ∧ R (g i j) O
  | _, _ => False
theorem sndo_i2 {g : Int → Int → V} {g' : Int → Int → D} (hg : ∀ i j F m, Rep K F m (g i j) (g' i j)) : SndO K (rI0 g) (i2 g') := ⟨fun H F m O x y a b R Q h ra rb t fn => by
  unfold i2 at t
  split at t
  · rename_i i j
    cases ra; cases rb
    exact ⟨i, j, rfl, rfl, fn.here h (hg i j F m) t⟩
  · exact t.elim⟩
theorem sndo_i2c {C C' : Int → Int → Prop} {g : Int → Int → V} {g' : Int → Int → D} (hC : ∀ i j, C' i j → C i j) (hg : ∀ i j F m, Rep K F m (g i j) (g' i j)) : SndO K (rI C g) (i2c C' g') := ⟨fun H F m O x y a b R Q h ra rb t fn => by
  unfold i2c at t
  split at t
  · rename_i i j
    cases ra; cases rb
    exact ⟨i, j, rfl, rfl, hC i j t.1, fn.here h (hg i j F m) t.2⟩
  · exact t.elim⟩
def subD : DOp := i2 fun i j => .int (i - j)
theorem sndo_sub : SndO K (rI0 fun i j => .int (i - j)) subD := sndo_i2 fun i j _ _ => .int _
def divD : DOp := i2c (fun _ j => 0 < j ∧ j < 1073741824) fun i j => .int (i / j)
theorem sndo_div : SndO K (rI CDiv fun i j => .int (i / j)) divD := sndo_i2c (fun _ _ h => h) fun i j _ _ => .int _
def modD : DOp := i2c (fun _ j => 0 < j) fun i j => .int (i % j)
theorem sndo_mod : SndO K (rI (fun _ j => 0 < j) fun i j => .int (i % j)) modD := sndo_i2c (fun _ _ h => h) fun i j _ _ => .int _
def powD : DOp := i2c (fun i j => 0 ≤ j ∧ j ≤ 1000 ∧ i.natAbs < 1000) fun i j => .int (i ^ j.toNat)
theorem sndo_pow : SndO K (rI CPow fun i j => .int (i ^ j.toNat)) powD := sndo_i2c (fun i j h => ⟨h.1, by omega, Nat.lt_trans h.2.2 (by decide)⟩) fun i j _ _ => .int _
def negD (ta : DE) : DE := fun δ O R => ta δ O fun a O1 => match a with
  | .int i => R (.int (-i)) O1
  | _ => False
theorem pd_neg {a : Expr} {ta : TE} {da : DE} {pos : Pos} (ha : PD X a ta da) : PD X (.UnaryOp .USub a pos) (tUn (rU fun i => .int (-i)) ta) (negD da) := ⟨pe_un un_neg ha.pe, ⟨fun σ H F m δ O R Q h e t fn =>
  ha.sn.go σ H F m δ O _ _ h e t fun v H1 F1 m1 p O1 s1 h1 r1 t1 => by
    cases r1 with
    | int i => exact ⟨i, rfl, fn _ H1 F1 m1 _ O1 s1 h1 (.int _) t1⟩
    | _ => exact t1.elim⟩⟩
/-! ### + : numbers, texts, tuples, lists -/
def addD : DOp := fun O a b R => match a, b with
  | .int i, .int j => R (.int (i + j)) O
  | .str s, .str t => s.length + t.length ≤ 1000000 ∧ R (.str (s ++ t)) O
  | .tup xs, .tup ys => xs.length + ys.length ≤ 1000000 ∧ R (.tup (xs ++ ys)) O
  | _, _ => oK (asL O a) fun xs => oK (asL O b) fun ys => xs.length + ys.length ≤ 1000000 ∧ R (.lst (xs ++ ys)) O
def rStr2 : R2 := fun x y H Q => ∃ i j, x = .str i ∧ y = .str j ∧ i.length + j.length ≤ sizeLine ∧ Q (.str (i ++ j)) H
def rAdd4 (K : PySem.W.Frag) : R2 := fun x y H Q => rI0 (fun i j => .int (i + j)) x y H Q ∨ (rStr2 x y H Q ∨ (rCatA K x y H Q ∨ rCat x y H Q))
theorem op_add4 : OpR X (binaryOp .Add) (rAdd4 X.K) := op_add.or (OpR.or (r := rStr2) op_add_str (op_catA.or op_cat))
theorem cat_tups {F H : Hp} {m : List Addr} {O : Own} {xs ys : List D} {x y : V} {R : D → Own → Prop} {Q : VK} (h : Hol K F H m O) (ra : Rep K F m x (.tup xs)) (rb : Rep K F m y (.tup ys)) (hz : xs.length + ys.length ≤ 1000000) (q : R (.tup (xs ++ ys)) O) (fn : Fin K F H m R Q) : rCatA K x y H Q := by
  obtain ⟨a, us, rfl, ha, r1⟩ := tup_rep h ra
  obtain ⟨b, ws, rfl, hb, r2⟩ := tup_rep h rb
  have l1 := r1.length
  have l2 := r2.length
  refine ⟨a, b, us, ws, rfl, rfl, SqT.of ha, SqT.of hb, sz5 (by omega), fun e => ?_, fun e e' => ?_, fun e e' p n => fn.tup h (r1.append r2) q p n⟩
  · have e2 : xs = [] := List.eq_nil_of_length_eq_zero (by rw [← l1, e] <;> rfl)
    subst e2
    exact fn.here h rb q
  · have e2 : ys = [] := List.eq_nil_of_length_eq_zero (by rw [← l2, e'] <;> rfl)
    subst e2
    rw [List.append_nil] at q
    exact fn.here h ra q
theorem sndo_add : SndO K (rAdd4 K) addD := ⟨fun H F m O x y a b R Q h ra rb t fn => by
  unfold addD at t
  split at t
  · rename_i i j
    cases ra; cases rb
    exact .inl ⟨i, j, rfl, rfl, fn.here h (.int _) t⟩
  · rename_i i j
    cases ra; cases rb
    exact .inr (.inl ⟨i, j, rfl, rfl, sz5 t.1, fn.here h (.str _) t.2⟩)
  · exact .inr (.inr (.inl (cat_tups h ra rb t.1 t.2 fn)))
  · obtain ⟨xs, e1, t⟩ := t.ex
    obtain ⟨ys, e2, t⟩ := t.ex
    obtain ⟨p, us, rfl, hp, r1⟩ := asL_rep h ra e1
    obtain ⟨q, ws, rfl, hq, r2⟩ := asL_rep h rb e2
    have l1 := r1.length
    have l2 := r2.length
    exact .inr (.inr (.inr ⟨p, q, us, ws, rfl, rfl, hp, hq, sz5 (by omega), fun l n => fn.lst h (r1.append r2) t.2 l n⟩))⟩
/-- list + list, a list that may change -/
def dCat (ta tb : DE) : DA := fun δ O R => ta δ O fun a O1 => tb δ O1 fun b O2 => oK (asL O2 a) fun xs => oK (asL O2 b) fun ys => xs.length + ys.length ≤ 1000000 ∧ R (xs ++ ys) O2
theorem pl_cat {a b : Expr} {ta tb : TE} {da db : DE} {pos : Pos} (ha : PD X a ta da) (hb : PD X b tb db) : PDL X (.BinOp a .Add b pos) (tOp rCat ta tb) (dCat da db) := ⟨pe_op op_cat ha.pe hb.pe, ⟨fun σ H F m δ O R Q h e t fn =>
  ha.sn.go σ H F m δ O _ _ h e t fun x H1 F1 m1 p O1 s1 h1 r1 t1 => hb.sn.go σ H1 F1 m1 δ O1 _ _ h1 (e.mono s1) t1 fun y H2 F2 m2 q O2 s2 h2 r2 t2 => by
    obtain ⟨xs, e1, t2⟩ := t2.ex
    obtain ⟨ys, e2, t2⟩ := t2.ex
    obtain ⟨p, us, rfl, hp, r1⟩ := asL_rep h2 (r1.mono s2) e1
    obtain ⟨q, ws, rfl, hq, r2⟩ := asL_rep h2 r2 e2
    have l1 := r1.length
    have l2 := r2.length
    exact ⟨p, q, us, ws, rfl, rfl, hp, hq, sz5 (by omega), fun l n => (fn.mono (s1.trans s2)).lst h2 (r1.append r2) t2.2 l n⟩⟩⟩
/-! ### * : numbers, a list some times, a tuple some times -/
def mulD : DOp := fun O a b R => match a, b with
  | .int i, .int j => MulOk i j ∧ R (.int (i * j)) O
  | .tup xs, .int k => (xs ≠ [] ∧ 2 ≤ k ∧ k ≤ 1000 ∧ xs.length ≤ 1000) ∧ R (.tup (List.replicate k.toNat xs).flatten) O
  | _, .int k => oK (asL O a) fun xs => (0 ≤ k ∧ k ≤ 1000000 ∧ xs.length * k.toNat ≤ 1000000) ∧ R (.lst (List.replicate k.toNat xs).flatten) O
  | _, _ => False
def rMul3 (K : PySem.W.Frag) : R2 := fun x y H Q => rI CMulB (fun i j => .int (i * j)) x y H Q ∨ (rRepT K x y H Q ∨ rRep x y H Q)
theorem op_mulB : OpR X (binaryOp .Mult) (rI CMulB fun i j => .int (i * j)) := fun pins s σ H x y v u Q I rx ry h => by
  obtain ⟨i, j, e1, e2, c, q⟩ := h
  rcases c with c | c
  · exact op_mulW pins s σ H x y v u Q I rx ry ⟨i, j, e1, e2, c, q⟩
  · exact op_mul pins s σ H x y v u Q I rx ry ⟨i, j, e1, e2, c, q⟩
theorem op_mul3 : OpR X (binaryOp .Mult) (rMul3 X.K) := op_mulB.or (op_repT.or op_rep)
theorem sndo_mul : SndO K (rMul3 K) mulD := ⟨fun H F m O x y a b R Q h ra rb t fn => by
  unfold mulD at t
  split at t
  · rename_i i j
    cases ra; cases rb
    exact .inl ⟨i, j, rfl, rfl, t.1.ok, fn.here h (.int _) t.2⟩
  · rename_i xs k
    cases rb
    obtain ⟨p, us, rfl, hp, r1⟩ := tup_rep h ra
    have l1 := r1.length
    refine .inr (.inl ⟨p, k, us, rfl, rfl, SqT.of hp, fun e => t.1.1 ?_, t.1.2.1, t.1.2.2.1, by omega, fun l n => fn.tup h (r1.rep k.toNat) t.2 l n⟩)
    exact List.eq_nil_of_length_eq_zero (by rw [← l1, e] <;> rfl)
  · rename_i k _ _
    cases rb
    obtain ⟨xs, e1, t⟩ := t.ex
    obtain ⟨p, us, rfl, hp, r1⟩ := asL_rep h ra e1
    have l1 := r1.length
    refine .inr (.inr ⟨p, k, us, rfl, rfl, hp, by omega, by omega, sz5 (by rw [l1]; exact t.1.2.2), fun l n => fn.lst h (r1.rep k.toNat) t.2 l n⟩)
  · exact t.elim⟩
def dTimes (ta tb : DE) : DA := fun δ O R => ta δ O fun a O1 => tb δ O1 fun b O2 => oK (asL O2 a) fun xs => match b with
  | .int k => (0 ≤ k ∧ k ≤ 1000000 ∧ xs.length * k.toNat ≤ 1000000) ∧ R (List.replicate k.toNat xs).flatten O2
  | _ => False
theorem pl_times {a b : Expr} {ta tb : TE} {da db : DE} {pos : Pos} (ha : PD X a ta da) (hb : PD X b tb db) : PDL X (.BinOp a .Mult b pos) (tOp rRep ta tb) (dTimes da db) := ⟨pe_op op_rep ha.pe hb.pe, ⟨fun σ H F m δ O R Q h e t fn =>
  ha.sn.go σ H F m δ O _ _ h e t fun x H1 F1 m1 p O1 s1 h1 r1 t1 => hb.sn.go σ H1 F1 m1 δ O1 _ _ h1 (e.mono s1) t1 fun y H2 F2 m2 q O2 s2 h2 r2 t2 => by
    obtain ⟨xs, e1, t2⟩ := t2.ex
    obtain ⟨p, us, rfl, hp, r1⟩ := asL_rep h2 (r1.mono s2) e1
    have l1 := r1.length
    cases r2 with
    | int k => exact ⟨p, k, us, rfl, rfl, hp, by omega, by omega, sz5 (by rw [l1]; exact t2.1.2.2), fun l n => (fn.mono (s1.trans s2)).lst h2 (r1.rep k.toNat) t2.2 l n⟩
    | _ => exact t2.elim⟩⟩

/-! ### the order -/
def leD : DOp := i2 fun i j => .bl (decide (i ≤ j))
def gtD : DOp := i2 fun i j => .bl (decide (j < i))
def geD : DOp := i2 fun i j => .bl (decide (j ≤ i))
theorem sndo_le : SndO K (rI0 fun i j => .bl (decide (i ≤ j))) leD := sndo_i2 fun i j _ _ => .bl _
theorem sndo_gt : SndO K (rI0 fun i j => .bl (decide (j < i))) gtD := sndo_i2 fun i j _ _ => .bl _
theorem sndo_ge : SndO K (rI0 fun i j => .bl (decide (j ≤ i))) geD := sndo_i2 fun i j _ _ => .bl _
def intsD : List D → Option (List Int)
  | [] => some []
  | .int i :: r => (intsD r).map (i :: ·)
  | _ :: _ => none
theorem intsD_eq : ∀ {ds : List D} {ns : List Int}, intsD ds = some ns → ds = ns.map D.int
  | [], ns, h => by cases h; rfl
  | .int i :: r, ns, h => by
    unfold intsD at h
    cases e : intsD r with
    | none => rw [e] at h; cases h
    | some ms => rw [e] at h; cases h; rw [intsD_eq e]; rfl
  | .non :: _, _, h => by cases h
  | .bl _ :: _, _, h => by cases h
  | .str _ :: _, _, h => by cases h
  | .tup _ :: _, _, h => by cases h
  | .lst _ :: _, _, h => by cases h
  | .ins _ _ :: _, _, h => by cases h
  | .scr _ :: _, _, h => by cases h
  | .own _ :: _, _, h => by cases h
  | .ref _ :: _, _, h => by cases h
theorem intsD_map : ∀ ns : List Int, intsD (ns.map D.int) = some ns
  | [] => rfl
  | n :: ns => by
    show (intsD (ns.map D.int)).map (n :: ·) = _
    rw [intsD_map ns]
    rfl
def ltD : DOp := fun O a b R => match a, b with
  | .int i, .int j => R (.bl (decide (i < j))) O
  | .tup xs, .tup ys => oK (intsD xs) fun ns => oK (intsD ys) fun ms => R (.bl (HT.lexLt ns ms)) O
  | _, _ => False
def rLt2 (K : PySem.W.Frag) : R2 := fun x y H Q => rI0 (fun i j => .bl (decide (i < j))) x y H Q ∨ rLtT K x y H Q
theorem op_lt2 (hu : X.A.units < cLine) : OpR X (compareOp .Lt) (rLt2 X.K) := op_lt.or (op_ltT hu)
theorem sndo_lt : SndO K (rLt2 K) ltD := ⟨fun H F m O x y a b R Q h ra rb t fn => by
  unfold ltD at t
  split at t
  · rename_i i j
    cases ra; cases rb
    exact .inl ⟨i, j, rfl, rfl, fn.here h (.bl _) t⟩
  · obtain ⟨ns, e1, t⟩ := t.ex
    obtain ⟨ms, e2, t⟩ := t.ex
    obtain ⟨p, us, rfl, hp, r1⟩ := tup_rep h ra
    obtain ⟨q, ws, rfl, hq, r2⟩ := tup_rep h rb
    rw [intsD_eq e1] at r1
    rw [intsD_eq e2] at r2
    rw [r1.ints] at hp
    rw [r2.ints] at hq
    exact .inr ⟨p, q, ns, ms, rfl, rfl, SqT.of hp, SqT.of hq, fn.here h (.bl _) t⟩
  · exact t.elim⟩

/-! ### == by what the data are -/
def pyL (f : D → Option PyData) : List D → Option (List PyData)
  | [] => some []
  | d :: ds => match f d, pyL f ds with
    | some p, some ps => some (p :: ps)
    | _, _ => none
def pyD (O : Own) : Nat → D → Option PyData
  | 0, _ => none
  | n + 1, d => match d with
    | .non => some .none
    | .bl b => some (.bool b)
    | .int i => some (.int i)
    | .str s => if PyData.strOk s = true then some (.str s) else none
    | .tup ds => (pyL (pyD O n) ds).map .tuple
    | .lst ds => (pyL (pyD O n) ds).map .list
    | .own h => match O[h]? with
      | some (some (.lst ds)) => (pyL (pyD O n) ds).map .list
      | _ => none
    | _ => none
theorem pyL_cons {f : D → Option PyData} {d : D} {ds : List D} {q : List PyData} (e : pyL f (d :: ds) = some q) : ∃ p ps, f d = some p ∧ pyL f ds = some ps ∧ q = p :: ps := by
  unfold pyL at e
  split at e
  · rename_i p ps h1 h2
    cases e
    exact ⟨p, ps, h1, h2, rfl⟩
  · cases e
theorem pyD_dp {O : Own} {F H : Hp} {m : List Addr} (h : Hol K F H m O) : ∀ (n : Nat) (d : D) (v : V) (p : PyData), Rep K F m v d → pyD O n d = some p → Dp K H v p ∧ PyData.canLay0 p = true ∧ PyData.depth p ≤ n
  | 0, _, _, _, _, e => by cases e
  | n + 1, d, v, p, r, e => by
    have ih := pyD_dp h n
    have all : ∀ (ds : List D) (vs : List V) (ps : List PyData), RepL K F m vs ds → pyL (pyD O n) ds = some ps → DpAll K H vs ps ∧ PyData.canLayAll0 ps = true ∧ PyData.depthAll ps ≤ n := by
      intro ds
      induction ds with
      | nil =>
        intro vs ps r e
        cases r
        cases e
        exact ⟨.nil, by simp only [PyData.canLayAll0], by simp only [PyData.depthAll]; omega⟩
      | cons d ds ihl =>
        intro vs ps r e
        obtain ⟨q, qs, e1, e2, rfl⟩ := pyL_cons e
        cases r with
        | cons r1 r2 =>
          obtain ⟨a1, a2, a3⟩ := ih d _ q r1 e1
          obtain ⟨b1, b2, b3⟩ := ihl _ qs r2 e2
          refine ⟨.cons a1 b1, ?_, ?_⟩
          · simp only [PyData.canLayAll0, a2, b2, Bool.and_self]
          · simp only [PyData.depthAll]
            omega
    have okL : ∀ {a : Addr} {xs : List V} {ds : List D} {ps : List PyData}, H a = some (.lst xs) → RepL K F m xs ds → pyL (pyD O n) ds = some ps → Dp K H (.ref a) (.list ps) ∧ PyData.canLay0 (.list ps) = true ∧ PyData.depth (.list ps) ≤ n + 1 := fun ha r e => by
      obtain ⟨a1, a2, a3⟩ := all _ _ _ r e
      refine ⟨.lst (SqL.of ha) a1, by simp only [PyData.canLay0]; exact a2, ?_⟩
      simp only [PyData.depth]
      omega
    have okM : ∀ {f : List PyData → PyData} {o : Option (List PyData)} {p : PyData}, o.map f = some p → ∃ ps, o = some ps ∧ p = f ps := fun {f o p} e => by
      cases o with
      | none => cases e
      | some ps => exact ⟨ps, rfl, (Option.some.inj e).symm⟩
    cases r with
    | non => cases e; exact ⟨.non, by simp only [PyData.canLay0], by simp only [PyData.depth]; omega⟩
    | bl b => cases e; exact ⟨.bl b, by simp only [PyData.canLay0], by simp only [PyData.depth]; omega⟩
    | int i => cases e; exact ⟨.int i, by simp only [PyData.canLay0], by simp only [PyData.depth]; omega⟩
    | str s =>
      unfold pyD at e
      dsimp only at e
      split at e
      · rename_i q
        cases e
        exact ⟨.str s, by simp only [PyData.canLay0]; exact q, by simp only [PyData.depth]; omega⟩
      · cases e
    | tup q r =>
      obtain ⟨ps, e1, rfl⟩ := okM e
      obtain ⟨a1, a2, a3⟩ := all _ _ _ r e1
      refine ⟨.tup (SqT.of (h.ex _ _ q)) a1, by simp only [PyData.canLay0]; exact a2, ?_⟩
      simp only [PyData.depth]
      omega
    | lst q r =>
      obtain ⟨ps, e1, rfl⟩ := okM e
      exact okL (h.ex _ _ q) r e1
    | @own k a q =>
      unfold pyD at e
      dsimp only at e
      split at e
      · rename_i ds q'
        obtain ⟨_, ho, e1, e2⟩ := h.at_ q' q
        cases e2 with
        | lst r =>
          obtain ⟨ps, e3, rfl⟩ := okM e
          exact okL e1 r e3
      · cases e
    | _ => cases e
theorem pyD_shaped {O : Own} {F H : Hp} {m : List Addr} (h : Hol K F H m O) {d : D} {v : V} {p : PyData} (r : Rep K F m v d) (e : pyD O 40 d = some p) : Dp K H v p ∧ SeqAt.shaped p = true := by
  obtain ⟨a, b, c⟩ := pyD_dp h 40 d v p r e
  refine ⟨a, ?_⟩
  show (p.canLay0 && decide (p.depth ≤ 64)) = true
  rw [b, Bool.true_and]
  exact decide_eq_true (by omega)
theorem eqv_int (a b : Int) : PyData.eqv (.int a) (.int b) = decide (a = b) := by
  simp only [PyData.eqv]
  exact Bool.beq_eq_decide_eq a b
theorem eqv_str (a b : Str) : PyData.eqv (.str a) (.str b) = decide (a = b) := by
  simp only [PyData.eqv]
  exact Bool.beq_eq_decide_eq a b
def eqG : DOp := fun O a b R => oK (pyD O 40 a) fun p => oK (pyD O 40 b) fun q => R (.bl (PyData.eqv p q)) O
/-- ==: of two numbers, of two texts (the answer is not worked out by the reading), of any data -/
def eqD : DOp := fun O a b R => match a, b with
  | .int i, .int j => R (.bl (decide (i = j))) O
  | .str s, .str t => (PyData.strOk s = true ∧ PyData.strOk t = true) ∧ ∀ k : Bool, k = decide (s = t) → R (.bl k) O
  | _, _ => eqG O a b R
def neD : DOp := fun O a b R => eqD O a b fun d O' => match d with
  | .bl k => R (.bl (!k)) O'
  | _ => False
theorem py_str40 {O : Own} {s : Str} (h : PyData.strOk s = true) : pyD O 40 (.str s) = some (.str s) := by
  show (if PyData.strOk s = true then some (PyData.str s) else none) = _
  rw [if_pos h]
theorem eqD_G {O : Own} {a b : D} {R : D → Own → Prop} (t : eqD O a b R) : eqG O a b R := by
  unfold eqD at t
  split at t
  · show oK (some (PyData.int _)) fun p => oK (some (PyData.int _)) fun q => R (.bl (PyData.eqv p q)) O
    show R (.bl (PyData.eqv (.int _) (.int _))) O
    rw [eqv_int]
    exact t
  · obtain ⟨⟨h1, h2⟩, h⟩ := t
    unfold eqG
    rw [py_str40 h1, py_str40 h2]
    exact h _ (eqv_str _ _)
  · exact t
theorem eqG_D {O : Own} {a b : D} {R : D → Own → Prop} (t : eqG O a b R) : eqD O a b R := by
  unfold eqD
  split
  · have t' : R (.bl (PyData.eqv (.int _) (.int _))) O := t
    rw [eqv_int] at t'
    exact t'
  · rename_i s u
    have ok : ∀ {x : Str} {p : PyData}, pyD O 40 (.str x) = some p → PyData.strOk x = true := fun {x p} e => by
      have e' : (if PyData.strOk x = true then some (PyData.str x) else none) = some p := e
      cases q : PyData.strOk x with
      | true => rfl
      | false => rw [q, if_neg Bool.false_ne_true] at e'; cases e'
    obtain ⟨p, e1, t⟩ := oK.ex t
    obtain ⟨q, e2, t⟩ := t.ex
    have h1 := ok e1
    have h2 := ok e2
    rw [py_str40 h1] at e1
    rw [py_str40 h2] at e2
    cases e1
    cases e2
    refine ⟨⟨h1, h2⟩, fun k hk => ?_⟩
    rw [eqv_str] at t
    rw [hk]
    exact t
  · exact t
theorem sndo_eq : SndO K (rEqD K) eqD := ⟨fun H F m O x y a b R Q h ra rb t fn => by
  obtain ⟨p, e1, t⟩ := oK.ex (eqD_G t)
  obtain ⟨q, e2, t⟩ := t.ex
  obtain ⟨d1, s1⟩ := pyD_shaped h ra e1
  obtain ⟨d2, s2⟩ := pyD_shaped h rb e2
  exact ⟨p, q, d1, d2, s1, s2, fn.here h (.bl _) t⟩⟩
theorem sndo_ne : SndO K (rNeD K) neD := ⟨fun H F m O x y a b R Q h ra rb t fn => by
  obtain ⟨p, e1, t⟩ := oK.ex (eqD_G t)
  obtain ⟨q, e2, t⟩ := t.ex
  obtain ⟨d1, s1⟩ := pyD_shaped h ra e1
  obtain ⟨d2, s2⟩ := pyD_shaped h rb e2
  exact ⟨p, q, d1, d2, s1, s2, fn.here h (.bl _) t⟩⟩
/-! ### in, not in: a list of data, a tuple of texts -/
def strsD : List D → Option (List Str)
  | [] => some []
  | .str i :: r => (strsD r).map (i :: ·)
  | _ :: _ => none
theorem strsD_rep {F : Hp} {m : List Addr} : ∀ {ds : List D} {ns : List Str} {vs : List V}, strsD ds = some ns → RepL K F m vs ds → vs = ns.map V.str
  | [], ns, vs, h, r => by cases h; cases r; rfl
  | .str i :: r, ns, vs, h, rr => by
    unfold strsD at h
    cases e : strsD r with
    | none => rw [e] at h; cases h
    | some ms =>
      rw [e] at h
      cases h
      cases rr with
      | cons r1 r2 => cases r1; rw [strsD_rep e r2]; rfl
  | .non :: _, _, _, h, _ => by cases h
  | .bl _ :: _, _, _, h, _ => by cases h
  | .int _ :: _, _, _, h, _ => by cases h
  | .tup _ :: _, _, _, h, _ => by cases h
  | .lst _ :: _, _, _, h, _ => by cases h
  | .ins _ _ :: _, _, _, h, _ => by cases h
  | .scr _ :: _, _, _, h, _ => by cases h
  | .own _ :: _, _, _, h, _ => by cases h
  | .ref _ :: _, _, _, h, _ => by cases h
def inD : DOp := fun O a b R => match a, b with
  | .str s, .tup ds => oK (strsD ds) fun ss => ∀ k : Bool, k = (ss.any fun x => x == s) → R (.bl k) O
  | _, _ => oK (pyD O 40 a) fun p => oK (asL O b) fun ds => oK (pyL (pyD O 39) ds) fun ps => R (.bl (ps.any fun z => PyData.eqv z p)) O
def notInD : DOp := fun O a b R => oK (pyD O 40 a) fun p => oK (asL O b) fun ds => oK (pyL (pyD O 39) ds) fun ps => R (.bl (!ps.any fun z => PyData.eqv z p)) O
theorem asL_py {O : Own} {d : D} {ds : List D} {ps : List PyData} (e : asL O d = some ds) (f : pyL (pyD O 39) ds = some ps) : pyD O 40 d = some (.list ps) := by
  cases d with
  | lst ys =>
    cases e
    show (pyL (pyD O 39) ds).map PyData.list = _
    rw [f]
    rfl
  | own h =>
    unfold asL at e
    dsimp only at e
    split at e
    · rename_i q
      cases e
      show (match O[h]? with | some (some (.lst ds)) => (pyL (pyD O 39) ds).map PyData.list | _ => none) = _
      rw [q]
      dsimp only
      rw [f]
      rfl
    · cases e
  | _ => cases e
def rIn2 (K : PySem.W.Frag) : R2 := fun x y H Q => rInD K x y H Q ∨ rIn K false x y H Q
theorem op_in2 (hu : X.A.units + 65 < cLine) : OpR X (compareOp .In) (rIn2 X.K) := (op_inD hu).or op_in_seq
theorem any_str (s : Str) : ∀ ss : List Str, inV (.str s) (ss.map V.str) = ss.any fun x => x == s
  | [] => rfl
  | x :: r => by
    show ((x == s) || inV (.str s) (r.map V.str)) = _
    rw [any_str s r]
    rfl
theorem flat_strs : ∀ ss : List Str, (ss.map V.str).all flatV = true
  | [] => rfl
  | x :: r => flat_strs r
theorem sndo_in : SndO K (rIn2 K) inD := ⟨fun H F m O x y a b R Q h ra rb t fn => by
  unfold inD at t
  split at t
  · obtain ⟨ss, e1, t⟩ := t.ex
    cases ra
    obtain ⟨q, ws, rfl, hq, r2⟩ := tup_rep h rb
    rw [strsD_rep e1 r2] at hq
    refine .inr ⟨q, ss.map V.str, rfl, .inr (SqT.of hq), rfl, flat_strs ss, ?_⟩
    rw [any_str]
    exact fn.here h (.bl _) (t _ rfl)
  · obtain ⟨p, e1, t⟩ := t.ex
    obtain ⟨ds, e2, t⟩ := t.ex
    obtain ⟨ps, e3, t⟩ := t.ex
    obtain ⟨d1, s1⟩ := pyD_shaped h ra e1
    obtain ⟨d2, s2⟩ := pyD_shaped h rb (asL_py e2 e3)
    exact .inl ⟨p, ps, d1, d2, s1, s2, fn.here h (.bl _) t⟩⟩
theorem sndo_notIn : SndO K (rNotInD K) notInD := ⟨fun H F m O x y a b R Q h ra rb t fn => by
  obtain ⟨p, e1, t⟩ := oK.ex t
  obtain ⟨ds, e2, t⟩ := t.ex
  obtain ⟨ps, e3, t⟩ := t.ex
  obtain ⟨d1, s1⟩ := pyD_shaped h ra e1
  obtain ⟨d2, s2⟩ := pyD_shaped h rb (asL_py e2 e3)
  exact ⟨p, ps, d1, d2, s1, s2, fn.here h (.bl _) t⟩⟩
/-! ### is, is not: None; truths -/
def isNon : D → Bool
  | .non => true
  | _ => false
def isD : DOp := fun O a b R => match b with
  | .non => R (.bl (isNon a)) O
  | _ => False
def notD : DOp := fun O a b R => match a, b with
  | _, .non => R (.bl (!isNon a)) O
  | .bl x, .bl y => R (.bl (!decide (x = y))) O
  | _, _ => False
theorem isNon_rep {F : Hp} {m : List Addr} {v : V} {d : D} (r : Rep K F m v d) : decide (v = .non) = isNon d := by cases r <;> rfl
def rIsN1 : R2 := fun x y H Q => y = .non ∧ Q (.bl (decide (x = .non))) H
def rNotN1 : R2 := fun x y H Q => y = .non ∧ Q (.bl (!decide (x = .non))) H
theorem op_isN1' : OpR X (compareOp .Is) rIsN1 := op_isN
def rNot2 : R2 := fun x y H Q => rNotN1 x y H Q ∨ rNotB x y H Q
theorem op_not2 : OpR X (compareOp .IsNot) rNot2 := OpR.or (r := rNotN1) op_notN op_notBl
theorem sndo_is : SndO K rIsN1 isD := ⟨fun H F m O x y a b R Q h ra rb t fn => by
  unfold isD at t
  split at t
  · cases rb
    exact ⟨rfl, fn.here h (by rw [isNon_rep ra]; exact .bl _) t⟩
  · exact t.elim⟩
theorem sndo_not : SndO K rNot2 notD := ⟨fun H F m O x y a b R Q h ra rb t fn => by
  unfold notD at t
  split at t
  · cases rb
    exact .inl ⟨rfl, fn.here h (by rw [isNon_rep ra]; exact .bl _) t⟩
  · cases ra
    cases rb
    exact .inr ⟨_, _, rfl, rfl, fn.here h (.bl _) t⟩
  · exact t.elim⟩
end
end DL

/-! DL, part d: displays, subscripts, slices, attributes, calls of built-ins. -/
namespace DL
open PySem L2

/-! ### argument lists, displays -/
def dNil : DA := fun _ O R => R [] O
def dCons (ta : DE) (tr : DA) : DA := fun δ O R => ta δ O fun d O1 => tr δ O1 fun ds O2 => R (d :: ds) O2
/-- at most n items -/
def fewL : Nat → List D → Prop → Prop
  | _, [], p => p
  | n + 1, _ :: ds, p => fewL n ds p
  | 0, _ :: _, _ => False
theorem fewL_ok : ∀ {n : Nat} {ds : List D} {p : Prop}, fewL n ds p → ds.length ≤ n ∧ p
  | 0, [], _, h => ⟨Nat.zero_le _, h⟩
  | n + 1, [], _, h => ⟨Nat.zero_le _, h⟩
  | n + 1, _ :: ds, _, h => by
    obtain ⟨a, b⟩ := fewL_ok (n := n) (ds := ds) h
    exact ⟨by rw [List.length_cons]; omega, b⟩
  | 0, _ :: _, _, h => h.elim
def dTup (t : DA) : DE := fun δ O R => t δ O fun ds O1 => fewL 1000 ds (R (.tup ds) O1)
def dLst (t : DA) : DA := fun δ O R => t δ O fun ds O1 => fewL 1000 ds (R ds O1)
section
variable {K : PySem.W.Frag} {X : Cx} {e : Expr} {es : List Expr} {te : TE} {t : TA} {de : DE} {da : DA} {pos : Pos}
theorem pda_nil : PDA X [] tNil dNil := ⟨pa_nil, ⟨fun σ H F m δ O R Q h en t fn => fn [] H F m [] O .refl h .nil t⟩⟩
theorem snda_cons (h1 : Snd K te de) (h2 : SndA K t da) : SndA K (tCons te t) (dCons de da) := ⟨fun σ H F m δ O R Q h en t fn => h1.go σ H F m δ O _ _ h en t fun x H1 F1 m1 p O1 s1 h1 r1 t1 =>
  h2.go σ H1 F1 m1 δ O1 _ _ h1 (en.mono s1) t1 fun vs H2 F2 m2 ds O2 s2 h2 r2 t2 => fn (x :: vs) H2 F2 m2 (p :: ds) O2 (s1.trans s2) h2 (.cons (r1.mono s2) r2) t2⟩
theorem pda_cons (h1 : PD X e te de) (h2 : PDA X es t da) (hs : starEach (e :: es) X.env = (false, eval e X.env) :: starEach es X.env := by rfl) : PDA X (e :: es) (tCons te t) (dCons de da) := ⟨pa_cons h1.pe h2.pe hs, snda_cons h1.sn h2.sn⟩
theorem pd_tup {x1 : Nat} (h : PDA X es t da) : PD X (.Tuple es x1 pos) (tTup t) (dTup da) := ⟨pe_tup h.pe, ⟨fun σ H F m δ O R Q hh en hr fn => h.sn.go σ H F m δ O _ _ hh en hr fun vs H1 F1 m1 ds O1 s1 h1 r1 t1 =>
  ⟨sz5 (by rw [r1.length]; have := (fewL_ok t1).1; omega), fun p n => (fn.mono s1).tup h1 r1 (fewL_ok t1).2 p n⟩⟩⟩
theorem pl_lst (h : PDA X es t da) : PDL X (.List es pos) (tLst t) (dLst da) := ⟨pe_lst h.pe, ⟨fun σ H F m δ O R Q hh en hr fn => h.sn.go σ H F m δ O _ _ hh en hr fun vs H1 F1 m1 ds O1 s1 h1 r1 t1 =>
  ⟨sz5 (by rw [r1.length]; have := (fewL_ok t1).1; omega), fun p n => (fn.mono s1).lst h1 r1 (fewL_ok t1).2 p n⟩⟩⟩
end

/-! ### subscripts -/
/-- the i-th, from the end where i is below nought -/
def atD {α : Type} (ds : List α) (i : Int) : Option α := if 0 ≤ i then ds[i.toNat]? else atI ds i
theorem atD_I {α : Type} {ds : List α} {i : Int} {d : α} (h : atD ds i = some d) : atI ds i = some d := by
  unfold atD at h
  split at h
  · rename_i q
    have e : i = ((i.toNat : Nat) : Int) := by omega
    rw [e]
    exact atI_nat h
  · exact h
theorem atD_nat {α : Type} {ds : List α} {i : Nat} {d : α} (h : ds[i]? = some d) : atD ds ((i : Nat) : Int) = some d := by
  unfold atD
  rw [if_pos (by omega), Int.toNat_natCast]
  exact h
def ixD : DOp := fun O a b R => match a, b with
  | .tup ds, .int i => oK (atD ds i) fun d => R d O
  | .scr ns, .int i => oK (atD ns i) fun n => R (.int n) O
  | _, .int i => oK (asL O a) fun ds => oK (atD ds i) fun d => R d O
  | _, _ => False
section
variable {K : PySem.W.Frag} {X : Cx} {F H : Hp} {m : List Addr} {O : Own}
theorem atI_rep {vs : List V} {ds : List D} {i : Int} {d : D} (r : RepL K F m vs ds) (e : atI ds i = some d) : ∃ v, atI vs i = some v ∧ Rep K F m v d := by
  unfold atI at *
  rw [← r.length] at e
  cases q : ixN vs.length i with
  | none => rw [q] at e; cases e
  | some j => rw [q] at e; exact r.get e
theorem atI_map {ns : List Int} {i n : Int} (e : atI ns i = some n) : atI (ns.map V.int) i = some (.int n) := by
  unfold atI at *
  rw [List.length_map]
  cases q : ixN ns.length i with
  | none => rw [q] at e; cases e
  | some j =>
    rw [q] at e
    show (ns.map V.int)[j]? = _
    rw [List.getElem?_map]
    have e' : ns[j]? = some n := e
    rw [e']
    rfl
theorem sndo_ix : SndO K (rIx K) ixD := ⟨fun H F m O x y a b R Q h ra rb t fn => by
  unfold ixD at t
  split at t
  · obtain ⟨d, e, t⟩ := t.ex
    cases rb
    obtain ⟨p, us, rfl, hp, r1⟩ := tup_rep h ra
    obtain ⟨v, e1, r2⟩ := atI_rep r1 (atD_I e)
    exact .inr (.inl ⟨p, us, _, v, rfl, rfl, SqT.of hp, e1, fn.here h r2 t⟩)
  · obtain ⟨n, e, t⟩ := t.ex
    cases rb
    cases ra with
    | scr q => exact .inl ⟨_, _, _, _, rfl, rfl, sqL_mono h.ex q, atI_map (atD_I e), fn.here h (.int n) t⟩
  · obtain ⟨ds, e0, t⟩ := t.ex
    obtain ⟨d, e, t⟩ := t.ex
    cases rb
    obtain ⟨p, us, rfl, hp, r1⟩ := asL_rep h ra e0
    obtain ⟨v, e1, r2⟩ := atI_rep r1 (atD_I e)
    exact .inl ⟨p, us, _, v, rfl, rfl, SqL.of hp, e1, fn.here h r2 t⟩
  · exact t.elim⟩
/-! ### slices -/
abbrev DPt := DSt → Own → (Option Int → Own → Prop) → Prop
structure PDO (X : Cx) (e : Option Expr) (te : TO) (t : DPt) : Prop where
  pe : PO X e te
  sn : ∀ (σ : L2.St) (H F : Hp) (m : List Addr) (δ : DSt) (O : Own) (R : Option Int → Own → Prop) (Q : Option Int → Hp → Prop), Hol X.K F H m O → EnvR X.K F m σ δ → t δ O R →
    (∀ o H' F' m' O', Stp F H m F' H' m' → Hol X.K F' H' m' O' → R o O' → Q o H') → te σ H Q
def dNoPart : DPt := fun _ O R => R none O
def dPart (t : DE) : DPt := fun δ O R => t δ O fun d O' => match d with
  | .int i => R (some i) O'
  | _ => False
theorem pdo_none : PDO X none tNoPart dNoPart := ⟨po_none, fun σ H F m δ O R Q h en t fn => fn none H F m O .refl h t⟩
theorem pdo_some {e : Expr} {te : TE} {t : DE} (h : PD X e te t) : PDO X (some e) (tPart te) (dPart t) := ⟨po_some h.pe, fun σ H F m δ O R Q hh en hr fn => h.sn.go σ H F m δ O _ _ hh en hr fun v H1 F1 m1 d O1 s1 h1 r1 t1 => by
  cases r1 with
  | int i => exact ⟨i, rfl, fn _ H1 F1 m1 O1 s1 h1 t1⟩
  | _ => exact t1.elim⟩
def cutD (ds : List D) (lo hi : Option Int) : List D := (ds.drop (HT.sIx ds.length 0 lo)).take (HT.sIx ds.length ds.length hi - HT.sIx ds.length 0 lo)
theorem RepL.cut {vs : List V} {ds : List D} (r : RepL K F m vs ds) (lo hi : Option Int) : RepL K F m (cutV vs lo hi) (cutD ds lo hi) := by
  unfold cutV cutD
  rw [← r.length]
  exact (r.drop _).take _
theorem RepL.cut_whole {ds : List D} {lo hi : Option Int} (h : HT.sIx ds.length 0 lo = 0 ∧ HT.sIx ds.length ds.length hi = ds.length) : cutD ds lo hi = ds := by
  unfold cutD
  rw [h.1, h.2, List.drop_zero, Nat.sub_zero, List.take_length]
def dSl (ta : DE) (tl th : DPt) : DE := fun δ O R => ta δ O fun a O1 => tl δ O1 fun l O2 => th δ O2 fun u O3 => match a with
  | .tup ds => R (.tup (cutD ds l u)) O3
  | _ => oK (asL O3 a) fun ds => R (.lst (cutD ds l u)) O3
def rSl2 (K : PySem.W.Frag) : V → Option Int → Option Int → Hp → VK → Prop := fun x lo hi H Q => rSlA K x lo hi H Q ∨ rSlL K x lo hi H Q
theorem pd_slice {e : Expr} {lo hi : Option Expr} {te : TE} {de : DE} {tl th : TO} {dl dh : DPt} {p2 pos : Pos} (he : PD X e te de) (hl : PDO X lo tl dl) (hh : PDO X hi th dh) : PD X (.Subscript e (.Slice lo hi none p2) pos) (tSl (rSl2 X.K) te tl th) (dSl de dl dh) :=
  ⟨pe_slice (SlR.or sl_tupA sl_list) he.pe hl.pe hh.pe, ⟨fun σ H F m δ O R Q h en t fn => he.sn.go σ H F m δ O _ _ h en t fun v H1 F1 m1 a O1 s1 h1 r1 t1 =>
    hl.sn σ H1 F1 m1 δ O1 _ _ h1 (en.mono s1) t1 fun l H2 F2 m2 O2 s2 h2 t2 => hh.sn σ H2 F2 m2 δ O2 _ _ h2 (en.mono (s1.trans s2)) t2 fun u H3 F3 m3 O3 s3 h3 t3 => by
      have r3 := r1.mono (s2.trans s3)
      have fn3 := fn.mono (s1.trans (s2.trans s3))
      split at t3
      · rename_i ds
        obtain ⟨p, us, rfl, hp, rr⟩ := tup_rep h3 r3
        refine .inl ⟨p, us, rfl, SqT.of hp, fun w => ?_, fun w q n => fn3.tup h3 (rr.cut l u) t3 q n⟩
        rw [rr.length] at w
        rw [RepL.cut_whole w] at t3
        exact fn3.here h3 r3 t3
      · obtain ⟨ds, e0, t3⟩ := t3.ex
        obtain ⟨p, us, rfl, hp, rr⟩ := asL_rep h3 r3 e0
        exact .inr ⟨p, us, rfl, SqL.of hp, fun q n => fn3.lst h3 (rr.cut l u) t3 q n⟩⟩⟩
/-- a list's slice, a list that may change -/
def dSlL (ta : DE) (tl th : DPt) : DA := fun δ O R => ta δ O fun a O1 => tl δ O1 fun l O2 => th δ O2 fun u O3 => oK (asL O3 a) fun ds => R (cutD ds l u) O3
theorem pl_slice {e : Expr} {lo hi : Option Expr} {te : TE} {de : DE} {tl th : TO} {dl dh : DPt} {p2 pos : Pos} (he : PD X e te de) (hl : PDO X lo tl dl) (hh : PDO X hi th dh) : PDL X (.Subscript e (.Slice lo hi none p2) pos) (tSl (rSlL X.K) te tl th) (dSlL de dl dh) :=
  ⟨pe_slice sl_list he.pe hl.pe hh.pe, ⟨fun σ H F m δ O R Q h en t fn => he.sn.go σ H F m δ O _ _ h en t fun v H1 F1 m1 a O1 s1 h1 r1 t1 =>
    hl.sn σ H1 F1 m1 δ O1 _ _ h1 (en.mono s1) t1 fun l H2 F2 m2 O2 s2 h2 t2 => hh.sn σ H2 F2 m2 δ O2 _ _ h2 (en.mono (s1.trans s2)) t2 fun u H3 F3 m3 O3 s3 h3 t3 => by
      obtain ⟨ds, e0, t3⟩ := t3.ex
      obtain ⟨p, us, rfl, hp, rr⟩ := asL_rep h3 (r1.mono (s2.trans s3)) e0
      exact ⟨p, us, rfl, SqL.of hp, fun q n => (fn.mono (s1.trans (s2.trans s3))).lst h3 (rr.cut l u) t3 q n⟩⟩⟩
def dRev (ta : DE) : DA := fun δ O R => ta δ O fun a O1 => oK (asL O1 a) fun ds => R ds.reverse O1
theorem pl_rev {e : Expr} {te : TE} {de : DE} {k : Nat} {p1 p2 p3 pos : Pos} (he : PD X e te de) : PDL X (.Subscript e (.Slice none none (some (.UnaryOp .USub (.Constant (.int 1) k p1) p2)) p3) pos) (tRevL X.K te) (dRev de) :=
  ⟨pe_revL he.pe, ⟨fun σ H F m δ O R Q h en t fn => he.sn.go σ H F m δ O _ _ h en t fun v H1 F1 m1 a O1 s1 h1 r1 t1 => by
    obtain ⟨ds, e0, t1⟩ := t1.ex
    obtain ⟨p, us, rfl, hp, rr⟩ := asL_rep h1 r1 e0
    exact ⟨p, us, rfl, SqL.of hp, fun q n => (fn.mono s1).lst h1 rr.reverse t1 q n⟩⟩⟩
/-! ### attributes -/
def asI (O : Own) : D → Option (Addr × List (Str × D))
  | .ins C gs => some (C, gs)
  | .own h => match O[h]? with
    | some (some (.ins C gs)) => some (C, gs)
    | _ => none
  | _ => none
theorem asI_rep (h : Hol K F H m O) {v : V} {d : D} {C : Addr} {gs : List (Str × D)} (r : Rep K F m v d) (e : asI O d = some (C, gs)) : ∃ a dx fs, v = .ref a ∧ H a = some (.ins C dx fs) ∧ RepF K F m fs gs := by
  cases r with
  | ins q r => cases e; exact ⟨_, _, _, rfl, h.ex _ _ q, r⟩
  | @own n a q =>
    unfold asI at e
    dsimp only at e
    split at e
    · rename_i C' gs' q'
      cases e
      obtain ⟨_, ho, e1, e2⟩ := h.at_ q' q
      cases e2 with
      | ins r => exact ⟨a, _, _, rfl, e1, r⟩
    · cases e
  | _ => cases e
def dFld (C : Addr) (ta : DE) (f : Str) : DE := fun δ O R => ta δ O fun a O1 => oK (asI O1 a) fun p => p.1 = C ∧ oK (p.2.lookup f) fun d => R d O1
theorem pd_fld {e : Expr} {te : TE} {de : DE} {f : Str} {C : Addr} {pos : Pos} (he : PD X e te de) (cl : Cls X.K C) (na : NoAttr X.K C f) (hb : attributeBase e f X.env (eval e X.env) = eval e X.env := by rfl) : PD X (.Attribute e f pos) (tFld X.K te f) (dFld C de f) :=
  ⟨pe_fld he.pe hb, ⟨fun σ H F m δ O R Q h en t fn => he.sn.go σ H F m δ O _ _ h en t fun v H1 F1 m1 a O1 s1 h1 r1 t1 => by
    obtain ⟨⟨C', gs⟩, e0, e1, t2⟩ := t1.ex
    have e1' : C' = C := e1
    subst e1'
    obtain ⟨d, e2, t1⟩ := t2.ex
    obtain ⟨p, dx, fs, rfl, hp, rr⟩ := asI_rep h1 r1 e0
    obtain ⟨v, e3, r3⟩ := rr.look e2
    exact ⟨p, _, dx, fs, v, rfl, hp, cl, na, e3, (fn.mono s1).here h1 r3 t1⟩⟩⟩
/-! ### built-ins by their names -/
abbrev DCl := Own → List D → (D → Own → Prop) → Prop
structure SndC (K : PySem.W.Frag) (r : List V → Hp → VK → Prop) (f : DCl) : Prop where
  go : ∀ (H F : Hp) (m : List Addr) (O : Own) (vs : List V) (ds : List D) (R : D → Own → Prop) (Q : VK), Hol K F H m O → RepL K F m vs ds → f O ds R → Fin K F H m R Q → r vs H Q
def dCall1 (f : DCl) (t : DA) : DE := fun δ O R => t δ O fun ds O1 => f O1 ds R
theorem snd_cb {r : List V → Hp → VK → Prop} {f : DCl} {t : TA} {da : DA} (hs : SndC K r f) (ha : SndA K t da) : Snd K (tCB r t) (dCall1 f da) := ⟨fun σ H F m δ O R Q h en t fn => ha.go σ H F m δ O _ _ h en t fun vs H1 F1 m1 ds O1 s1 h1 r1 t1 =>
  hs.go H1 F1 m1 O1 vs ds R Q h1 r1 t1 (fn.mono s1)⟩
section
variable {x : Str} {p pos : Pos} {e : Expr} {es : List Expr} {t : TA} {da : DA} {id T : String} {r : List V → Hp → VK → Prop} {f : DCl}
theorem pd_callB (hc : CallR X (.builtin id) r) (hs' : SndC X.K r f) (hg : Gl X x) (hm : X.mg x = none) (hv : bootBuiltins x = some (.builtin id)) (ha : PDA X (e :: es) t da) (hn : x ≠ "__name__" := by decide) (hdb : (x == ("__debug__" : Str)) = false := by decide)
    (he : starEach (e :: es) X.env = (false, eval e X.env) :: starEach es X.env := by rfl) (hpl : (backTo pos (starEach es X.env)).any (·.1) = false := by rfl) : PD X (.Call (.Name x p) (e :: es) [] pos) (tCB r t) (dCall1 f da) :=
  ⟨pe_callB hc hg hm hv ha.pe hn hdb he hpl, snd_cb hs' ha.sn⟩
theorem pd_callTy (hc : CallR X (.type T) r) (hs' : SndC X.K r f) (hg : Gl X x) (hm : X.mg x = none) (hv : bootBuiltins x = some (.type T)) (ha : PDA X (e :: es) t da) (hn : x ≠ "__name__" := by decide) (hdb : (x == ("__debug__" : Str)) = false := by decide)
    (he : starEach (e :: es) X.env = (false, eval e X.env) :: starEach es X.env := by rfl) (hpl : (backTo pos (starEach es X.env)).any (·.1) = false := by rfl) : PD X (.Call (.Name x p) (e :: es) [] pos) (tCB r t) (dCall1 f da) :=
  ⟨pe_callTy hc hg hm hv ha.pe hn hdb he hpl, snd_cb hs' ha.sn⟩
end
/-- len -/
def lenD : DCl := fun O ds R => match ds with
  | [.tup xs] => R (.int xs.length) O
  | [.scr ns] => R (.int ns.length) O
  | [d] => oK (asL O d) fun xs => R (.int xs.length) O
  | _ => False
def rLenS (K : PySem.W.Frag) : List V → Hp → VK → Prop := fun xs H Q => ∃ p ys, xs = [.ref p] ∧ (SqL K H p ys ∨ SqT K H p ys) ∧ Q (.int ys.length) H
theorem cr_len : CallR X (.builtin "len") (rLenS X.K) := call_len_seq
theorem sndc_len : SndC K (rLenS K) lenD := ⟨fun H F m O vs ds R Q h r t fn => by
  unfold lenD at t
  split at t
  · cases r with
    | cons r0 rt =>
      cases rt
      obtain ⟨p, us, rfl, hp, rr⟩ := tup_rep h r0
      exact ⟨p, us, rfl, .inr (SqT.of hp), fn.here h (by rw [rr.length]; exact .int _) t⟩
  · cases r with
    | cons r0 rt =>
      cases rt
      cases r0 with
      | scr q => exact ⟨_, _, rfl, .inl (sqL_mono h.ex q), fn.here h (by rw [List.length_map]; exact .int _) t⟩
  · obtain ⟨xs, e0, t⟩ := t.ex
    cases r with
    | cons r0 rt =>
      cases rt
      obtain ⟨p, us, rfl, hp, rr⟩ := asL_rep h r0 e0
      exact ⟨p, us, rfl, .inl (SqL.of hp), fn.here h (by rw [rr.length]; exact .int _) t⟩
  · exact t.elim⟩
/-- int of a number, of a truth -/
def intD : DCl := fun O ds R => match ds with
  | [.int i] => R (.int i) O
  | [.bl b] => R (.int (if b then 1 else 0)) O
  | _ => False
def rInt1 : List V → Hp → VK → Prop := fun xs H Q => (∃ i, xs = [.int i] ∧ Q (.int i) H) ∨ ∃ k, xs = [.bl k] ∧ Q (.int (if k then 1 else 0)) H
theorem cr_int : CallR X (.type "int") rInt1 := call_int1
theorem sndc_int : SndC K rInt1 intD := ⟨fun H F m O vs ds R Q h r t fn => by
  unfold intD at t
  split at t
  · cases r with
    | cons r0 rt => cases rt; cases r0; exact .inl ⟨_, rfl, fn.here h (.int _) t⟩
  · cases r with
    | cons r0 rt => cases rt; cases r0; exact .inr ⟨_, rfl, fn.here h (.int _) t⟩
  · exact t.elim⟩
/-- tuple of a list, of a tuple -/
def tupleD : DCl := fun O ds R => match ds with
  | [.tup xs] => R (.tup xs) O
  | [d] => oK (asL O d) fun xs => R (.tup xs) O
  | _ => False
def rTupOf (K : PySem.W.Frag) : List V → Hp → VK → Prop := fun xs H Q => ∃ p ys, xs = [.ref p] ∧ ((SqL K H p ys ∧ ∀ l, H l = none → Q (.ref l) (L2.upd H l (.tup ys))) ∨ (SqT K H p ys ∧ Q (.ref p) H))
theorem cr_tuple : CallR X (.type "tuple") (rTupOf X.K) := call_tuple_of
theorem sndc_tuple : SndC K (rTupOf K) tupleD := ⟨fun H F m O vs ds R Q h r t fn => by
  unfold tupleD at t
  split at t
  · cases r with
    | cons r0 rt =>
      cases rt
      obtain ⟨p, us, rfl, hp, rr⟩ := tup_rep h r0
      exact ⟨p, us, rfl, .inr ⟨SqT.of hp, fn.here h r0 t⟩⟩
  · obtain ⟨xs, e0, t⟩ := t.ex
    cases r with
    | cons r0 rt =>
      cases rt
      obtain ⟨p, us, rfl, hp, rr⟩ := asL_rep h r0 e0
      exact ⟨p, us, rfl, .inl ⟨SqL.of hp, fun l n => fn.tup h rr t l n⟩⟩
  · exact t.elim⟩
/-- list of a list, of a tuple: a new list -/
def dList (ta : DE) : DA := fun δ O R => ta δ O fun a O1 => match a with
  | .tup xs => R xs O1
  | _ => oK (asL O1 a) fun xs => R xs O1
def rListOf (K : PySem.W.Frag) : List V → Hp → VK → Prop := fun xs H Q => ∃ p ys, xs = [.ref p] ∧ (SqL K H p ys ∨ SqT K H p ys) ∧ ∀ l, H l = none → Q (.ref l) (L2.upd H l (.lst ys))
theorem cr_list : CallR X (.type "list") (rListOf X.K) := call_list_of
theorem pl_list {x : Str} {p pos : Pos} {e : Expr} {te : TE} {de : DE} (hg : Gl X x) (hm : X.mg x = none) (hv : bootBuiltins x = some (.type "list")) (he : PD X e te de) (hn : x ≠ "__name__" := by decide) (hdb : (x == ("__debug__" : Str)) = false := by decide)
    (hs : starEach [e] X.env = (false, eval e X.env) :: starEach [] X.env := by rfl) (hpl : (backTo pos (starEach [] X.env)).any (·.1) = false := by rfl) : PDL X (.Call (.Name x p) [e] [] pos) (tCB (rListOf X.K) (tCons te tNil)) (dList de) :=
  ⟨pe_callTy cr_list hg hm hv (pa_cons he.pe pa_nil hs) hn hdb hs hpl, ⟨fun σ H F m δ O R Q h en t fn => he.sn.go σ H F m δ O _ _ h en t fun v H1 F1 m1 a O1 s1 h1 r1 t1 => by
    show rListOf X.K [v] H1 Q
    split at t1
    · obtain ⟨p, us, rfl, hp, rr⟩ := tup_rep h1 r1
      exact ⟨p, us, rfl, .inr (SqT.of hp), fun l n => (fn.mono s1).lst h1 rr t1 l n⟩
    · obtain ⟨xs, e0, t1⟩ := t1.ex
      obtain ⟨p, us, rfl, hp, rr⟩ := asL_rep h1 r1 e0
      exact ⟨p, us, rfl, .inl (SqL.of hp), fun l n => (fn.mono s1).lst h1 rr t1 l n⟩⟩⟩
/-- min of two numbers -/
def min2D : DCl := fun O ds R => match ds with
  | [.int i, .int j] => R (.int (if j < i then j else i)) O
  | _ => False
def rMin2 : List V → Hp → VK → Prop := fun xs H Q => ∃ i j, xs = [.int i, .int j] ∧ Q (.int (if j < i then j else i)) H
theorem cr_min2 (hc : X.calm = true) : CallR X (.builtin "min") rMin2 := call_min2 hc
theorem sndc_min2 : SndC K rMin2 min2D := ⟨fun H F m O vs ds R Q h r t fn => by
  unfold min2D at t
  split at t
  · cases r with
    | cons r0 rt =>
      cases rt with
      | cons r1 rt => cases rt; cases r0; cases r1; exact ⟨_, _, rfl, fn.here h (.int _) t⟩
  · exact t.elim⟩
/-- sum, min, max of a list of numbers -/
def sumD : DCl := fun O ds R => match ds with
  | [d] => oK (asL O d) fun xs => oK (intsD xs) fun ns => R (.int ns.sum) O
  | _ => False
def minD : DCl := fun O ds R => match ds with
  | [d] => oK (asL O d) fun xs => oK (intsD xs) fun ns => 0 < ns.length ∧ ∀ k, k ∈ ns → (∀ y, y ∈ ns → k ≤ y) → R (.int k) O
  | _ => False
def maxD : DCl := fun O ds R => match ds with
  | [d] => oK (asL O d) fun xs => oK (intsD xs) fun ns => 0 < ns.length ∧ ∀ k, k ∈ ns → (∀ y, y ∈ ns → y ≤ k) → R (.int k) O
  | _ => False
theorem one_ints (h : Hol K F H m O) {vs : List V} {d : D} {xs : List D} {ns : List Int} (r : RepL K F m vs [d]) (e0 : asL O d = some xs) (e1 : intsD xs = some ns) : ∃ a, vs = [V.ref a] ∧ SqL K H a (ns.map V.int) := by
  cases r with
  | cons r0 rt =>
    cases rt
    obtain ⟨p, us, rfl, hp, rr⟩ := asL_rep h r0 e0
    rw [intsD_eq e1] at rr
    rw [rr.ints] at hp
    exact ⟨p, rfl, SqL.of hp⟩
theorem sndc_sum : SndC K (rSum K) sumD := ⟨fun H F m O vs ds R Q h r t fn => by
  unfold sumD at t
  split at t
  · obtain ⟨xs, e0, t⟩ := t.ex
    obtain ⟨ns, e1, t⟩ := t.ex
    obtain ⟨a, rfl, q⟩ := one_ints h r e0 e1
    exact ⟨a, ns, rfl, q, fn.here h (.int _) t⟩
  · exact t.elim⟩
theorem sndc_min : SndC K (rMin K) minD := ⟨fun H F m O vs ds R Q h r t fn => by
  unfold minD at t
  split at t
  · obtain ⟨xs, e0, t⟩ := t.ex
    obtain ⟨ns, e1, t⟩ := t.ex
    obtain ⟨a, rfl, q⟩ := one_ints h r e0 e1
    exact ⟨a, ns, rfl, q, t.1, fun k hk hy => fn.here h (.int _) (t.2 k hk hy)⟩
  · exact t.elim⟩
theorem sndc_max : SndC K (rMax K) maxD := ⟨fun H F m O vs ds R Q h r t fn => by
  unfold maxD at t
  split at t
  · obtain ⟨xs, e0, t⟩ := t.ex
    obtain ⟨ns, e1, t⟩ := t.ex
    obtain ⟨a, rfl, q⟩ := one_ints h r e0 e1
    exact ⟨a, ns, rfl, q, t.1, fun k hk hy => fn.here h (.int _) (t.2 k hk hy)⟩
  · exact t.elim⟩
/-- isinstance(x, T), T one of int, bool, tuple, list -/
inductive Ty where
  | non | bl | int | str | tup | lst | dic
def Ty.name : Ty → String
  | .non => "NoneType" | .bl => "bool" | .int => "int" | .str => "str" | .tup => "tuple" | .lst => "list" | .dic => "dict"
def isTy : Ty → Ty → Bool
  | .bl, .bl => true | .bl, .int => true | .int, .int => true | .tup, .tup => true | .lst, .lst => true | _, _ => false
def tyD (O : Own) : D → Option Ty
  | .non => some .non | .bl _ => some .bl | .int _ => some .int | .str _ => some .str | .tup _ => some .tup | .lst _ => some .lst
  | .own h => match O[h]? with
    | some (some (.lst _)) => some .lst
    | some (some (.dic _)) => some .dic
    | _ => none
  | _ => none
theorem kit_bl (t : Ty) : kitB t.name "bool" = some (isTy t .bl) := by cases t <;> decide +kernel
theorem kit_int (t : Ty) : kitB t.name "int" = some (isTy t .int) := by cases t <;> decide +kernel
theorem kit_tup (t : Ty) : kitB t.name "tuple" = some (isTy t .tup) := by cases t <;> decide +kernel
theorem kit_lst (t : Ty) : kitB t.name "list" = some (isTy t .lst) := by cases t <;> decide +kernel
theorem tyD_rep (h : Hol K F H m O) {v : V} {d : D} {t : Ty} (r : Rep K F m v d) (e : tyD O d = some t) : TyX K H v (.type t.name) := by
  cases r with
  | non => cases e; exact .base .non
  | bl b => cases e; exact .base (.bl b)
  | int i => cases e; exact .base (.int i)
  | str s => cases e; exact .base (.str s)
  | tup q r => cases e; exact .base (.tup (h.ex _ _ q))
  | lst q r => cases e; exact .base (.lst (h.ex _ _ q))
  | @own n a q =>
    unfold tyD at e
    dsimp only at e
    split at e
    · rename_i q'
      cases e
      obtain ⟨_, ho, e1, e2⟩ := h.at_ q' q
      cases e2 with
      | lst r => exact .base (.lst e1)
    · rename_i q'
      cases e
      obtain ⟨_, ho, e1, e2⟩ := h.at_ q' q
      cases e2 with
      | dic r => exact .base (.dK e1)
    · cases e
  | _ => cases e
def dIsi (T : Ty) (ta : DE) : DE := fun δ O R => ta δ O fun a O1 => oK (tyD O1 a) fun t => R (.bl (isTy t T)) O1
theorem pd_isi {x y : Str} {p p2 pos : Pos} {e : Expr} {te : TE} {de : DE} (T : Ty) (n : String) (hk : ∀ t : Ty, kitB t.name n = some (isTy t T)) (hg : Gl X x) (hm : X.mg x = none) (hv : bootBuiltins x = some (.builtin "isinstance")) (he : PD X e te de)
    (hgy : Gl X y) (hmy : X.mg y = none) (hvy : bootBuiltins y = some (.type n)) (hn : x ≠ "__name__" := by decide) (hdb : (x == ("__debug__" : Str)) = false := by decide) (hny : y ≠ "__name__" := by decide) (hdby : (y == ("__debug__" : Str)) = false := by decide)
    (hs : starEach [e, .Name y p2] X.env = (false, eval e X.env) :: starEach [.Name y p2] X.env := by rfl) (hs2 : starEach [.Name y p2] X.env = (false, eval (.Name y p2) X.env) :: starEach [] X.env := by rfl) (hpl : (backTo pos (starEach [.Name y p2] X.env)).any (·.1) = false := by rfl) :
    PD X (.Call (.Name x p) [e, .Name y p2] [] pos) (tCB (rIsi X.K) (tCons te (tCons (tC (.ty n)) tNil))) (dIsi T de) :=
  ⟨pe_callB call_isi hg hm hv (pa_cons he.pe (pa_cons (pe_bltn hgy hmy hvy rfl hny hdby) pa_nil hs2) hs) hn hdb hs hpl, ⟨fun σ H F m δ O R Q h en t fn => he.sn.go σ H F m δ O _ _ h en t fun v H1 F1 m1 a O1 s1 h1 r1 t1 => by
    obtain ⟨ty, e0, t1⟩ := t1.ex
    exact ⟨v, .ty n, .type ty.name, .type n, isTy ty T, rfl, .ty n, tyD_rep h1 r1 e0, kit_ty (hk ty), (fn.mono s1).here h1 (.bl _) t1⟩⟩⟩
end
end DL

/-! DL, part e: targets, statements, loops, comprehensions. -/
namespace DL
open PySem L2

/-! ### targets -/
abbrev DTg := D → DSt → Own → (DSt → Own → Prop) → Prop
abbrev DTgs := List D → DSt → Own → (DSt → Own → Prop) → Prop
def FinG (K : PySem.W.Frag) (F H : Hp) (m : List Addr) (R : DSt → Own → Prop) (Q : L2.St → Hp → Prop) : Prop := ∀ σ' H' F' m' δ' O', Stp F H m F' H' m' → Hol K F' H' m' O' → EnvR K F' m' σ' δ' → R δ' O' → Q σ' H'
theorem FinG.mono {K : PySem.W.Frag} {F H F' H' : Hp} {m m' : List Addr} {R : DSt → Own → Prop} {Q : L2.St → Hp → Prop} (f : FinG K F H m R Q) (s : Stp F H m F' H' m') : FinG K F' H' m' R Q := fun a b c d e g s1 => f a b c d e g (s.trans s1)
structure SndG (K : PySem.W.Frag) (g : TG) (dg : DTg) : Prop where
  go : ∀ (v : V) (d : D) (σ : L2.St) (H F : Hp) (m : List Addr) (δ : DSt) (O : Own) (R : DSt → Own → Prop) (Q : L2.St → Hp → Prop), Hol K F H m O → EnvR K F m σ δ → Rep K F m v d → dg d δ O R → FinG K F H m R Q → g v σ H Q
structure SndGs (K : PySem.W.Frag) (g : TGs) (dg : DTgs) : Prop where
  go : ∀ (vs : List V) (ds : List D) (σ : L2.St) (H F : Hp) (m : List Addr) (δ : DSt) (O : Own) (R : DSt → Own → Prop) (Q : L2.St → Hp → Prop), Hol K F H m O → EnvR K F m σ δ → RepL K F m vs ds → dg ds δ O R → FinG K F H m R Q → g vs σ H Q
structure PDG (X : Cx) (e : Expr) (g : TG) (dg : DTg) : Prop where
  pe : PG X e g
  sn : SndG X.K g dg
structure PDGs (X : Cx) (e : List Expr) (g : TGs) (dg : DTgs) : Prop where
  pe : PGs X e g
  sn : SndGs X.K g dg
/-- the target stores in the slots vs alone -/
structure Own1 (vs : List Nat) (g : TG) : Prop where
  go : ∀ (v : V) (σ : L2.St) (H : Hp) (Q : L2.St → Hp → Prop), g v σ H Q → g v σ H fun σ' H' => wipe σ' vs = wipe σ vs ∧ Q σ' H'
structure Own2 (vs : List Nat) (g : TGs) : Prop where
  go : ∀ (v : List V) (σ : L2.St) (H : Hp) (Q : L2.St → Hp → Prop), g v σ H Q → g v σ H fun σ' H' => wipe σ' vs = wipe σ vs ∧ Q σ' H'
def dgName (i : Nat) : DTg := fun d δ O R => R (δ.set i (some d)) O
def dgNil : DTgs := fun ds δ O R => match ds with
  | [] => R δ O
  | _ => False
def dgCons (t : DTg) (u : DTgs) : DTgs := fun ds δ O R => match ds with
  | d :: r => t d δ O fun δ1 O1 => u r δ1 O1 R
  | [] => False
/-- just n items -/
def justL : Nat → List D → Prop → Prop
  | 0, [], p => p
  | n + 1, _ :: ds, p => justL n ds p
  | _, _, _ => False
theorem justL_ok : ∀ {n : Nat} {ds : List D} {p : Prop}, justL n ds p → ds.length = n ∧ p
  | 0, [], _, h => ⟨rfl, h⟩
  | n + 1, [], _, h => h.elim
  | n + 1, _ :: ds, _, h => by
    obtain ⟨a, b⟩ := justL_ok (n := n) (ds := ds) h
    exact ⟨by rw [List.length_cons, a], b⟩
  | 0, _ :: _, _, h => h.elim
def dgTup (n : Nat) (t : DTgs) : DTg := fun d δ O R => match d with
  | .tup ds => justL n ds (t ds δ O R)
  | _ => False
section
variable {K : PySem.W.Frag} {X : Cx} {pos : Pos}
theorem sndg_name (i : Nat) : SndG K (gName i) (dgName i) := ⟨fun v d σ H F m δ O R Q h e r t f => f _ H F m _ O .refl h (e.set i r) t⟩
theorem pdg_name {i : Nat} {x : Str} (hN : X.N.Nodup) (hi : X.N[i]? = some x) (hx : Loc X.env.scope x) (hf : X.fn x = true ∨ X.env.scope.names.lookup x = some .local := by first | exact .inl rfl | exact .inr rfl | assumption) : PDG X (.Name x pos) (gName i) (dgName i) :=
  ⟨pg_name hN hi hx hf, sndg_name i⟩
theorem pdgs_nil : PDGs X [] gNil dgNil := ⟨pgs_nil, ⟨fun vs ds σ H F m δ O R Q h e r t f => by
  cases r with
  | nil => exact ⟨rfl, f _ H F m _ O .refl h e t⟩
  | cons _ _ => exact t.elim⟩⟩
theorem pdgs_cons {e : Expr} {es : List Expr} {g : TG} {dg : DTg} {gs : TGs} {dgs : DTgs} (h1 : PDG X e g dg) (h2 : PDGs X es gs dgs) (hs : (assignEach (e :: es) X.env).map (·.2) = assign e X.env :: (assignEach es X.env).map (·.2) := by rfl) : PDGs X (e :: es) (gCons g gs) (dgCons dg dgs) :=
  ⟨pgs_cons h1.pe h2.pe hs, ⟨fun vs ds σ H F m δ O R Q h e r t f => by
    cases r with
    | nil => exact t.elim
    | cons r0 rt => exact ⟨_, _, rfl, h1.sn.go _ _ σ H F m δ O _ _ h e r0 t fun σ1 H1 F1 m1 δ1 O1 s1 h1' e1 t1 => h2.sn.go _ _ σ1 H1 F1 m1 δ1 O1 R Q h1' e1 (rt.mono s1) t1 (f.mono s1)⟩⟩⟩
theorem pdg_tup {es : List Expr} {k : Nat} {g : TGs} {dg : DTgs} {n : Nat} (hc : X.calm = true) (h : PDGs X es g dg) (hn : (assignEach es X.env).length = n := by rfl) (hst : (assignEach es X.env).findIdx? (·.1) = none := by rfl) : PDG X (.Tuple es k pos) (gTup X.K n g) (dgTup n dg) :=
  ⟨pg_tup hc h.pe hn hst, ⟨fun v d σ H F m δ O R Q hh e r t f => by
    cases r with
    | tup q r => exact ⟨_, _, rfl, SqT.of (hh.ex _ _ q), by rw [r.length]; exact (justL_ok t).1, h.sn.go _ _ σ H F m δ O R Q hh e r (justL_ok t).2 f⟩
    | _ => exact t.elim⟩⟩
theorem wipe_set {i : Nat} {o : Option V} : ∀ {vs : List Nat} {σ : L2.St}, i ∈ vs → wipe (σ.set i o) vs = wipe σ vs
  | [], _, h => by cases h
  | v :: vs, σ, h => by
    show (wipe (σ.set i o) vs).set v none = (wipe σ vs).set v none
    by_cases q : i ∈ vs
    · rw [wipe_set q]
    · have e : i = v := by
        rcases List.mem_cons.mp h with z | z
        · exact z
        · exact absurd z q
      subst e
      have aux : ∀ (us : List Nat) (τ : L2.St), i ∉ us → wipe (τ.set i o) us = (wipe τ us).set i o := by
        intro us
        induction us with
        | nil => intro τ _; rfl
        | cons u us ih =>
          intro τ hn
          have n1 : i ≠ u := fun z => hn (by rw [z]; exact List.mem_cons_self)
          show (wipe (τ.set i o) us).set u none = ((wipe τ us).set u none).set i o
          rw [ih τ (fun z => hn (List.mem_cons_of_mem _ z)), List.set_comm _ _ n1]
      rw [aux vs σ q, List.set_set]
theorem own_name {i : Nat} {vs : List Nat} (h : i ∈ vs) : Own1 vs (gName i) := ⟨fun v σ H Q q => ⟨wipe_set h, q⟩⟩
theorem own_nil {vs : List Nat} : Own2 vs gNil := ⟨fun v σ H Q q => ⟨q.1, rfl, q.2⟩⟩
theorem own_consN {i : Nat} {vs : List Nat} {u : TGs} (h : i ∈ vs) (h2 : Own2 vs u) : Own2 vs (gCons (gName i) u) := ⟨fun v σ H Q q => by
  obtain ⟨x, r, e, q⟩ := q
  refine ⟨x, r, e, ?_⟩
  have q2 := h2.go r (σ.set i (some x)) H Q q
  rw [wipe_set h] at q2
  exact q2⟩
theorem own_tup {n : Nat} {vs : List Nat} {t : TGs} (h : Own2 vs t) : Own1 vs (gTup K n t) := ⟨fun v σ H Q q => by
  obtain ⟨a, xs, e, h1, h2, q⟩ := q
  exact ⟨a, xs, e, h1, h2, h.go xs σ H Q q⟩⟩
/-- o[i] = d -/
def setD (O : Own) (a b d : D) (R : Own → Prop) : Prop := match a, b with
  | .own h, .int i => match O[h]? with
    | some (some (.lst xs)) => oK (ixN xs.length i) fun j => R (O.set h (some (.lst (xs.set j d))))
    | _ => False
  | _, _ => False
def dgSub (to ti : DE) : DTg := fun d δ O R => to δ O fun a O1 => ti δ O1 fun b O2 => setD O2 a b d fun O3 => R δ O3
theorem pdg_sub {o i : Expr} {to ti : TE} {dO di : DE} (ho : PD X o to dO) (hi : PD X i ti di)
    (ha : ∀ v, assign (.Subscript o i pos) X.env v = (do
      let ov ← holding [v] (eval o X.env)
      let iv ← holding [v, ov] (eval i X.env)
      standAt pos
      holding [v, ov, iv] (setItem ov iv v)
      release [v, ov, iv] []) := by intro _; rfl) : PDG X (.Subscript o i pos) (gSub to ti rSetL) (dgSub dO di) :=
  ⟨pg_sub ho.pe hi.pe set_list ha, ⟨fun v d σ H F m δ O R Q h e r t f => ho.sn.go σ H F m δ O _ _ h e t fun x H1 F1 m1 a O1 s1 h1 r1 t1 =>
    hi.sn.go σ H1 F1 m1 δ O1 _ _ h1 (e.mono s1) t1 fun y H2 F2 m2 b O2 s2 h2 r2 t2 => by
      unfold setD at t2
      split at t2
      · rename_i k i
        split at t2
        · rename_i xs q
          obtain ⟨j, e1, t2⟩ := t2.ex
          cases r2
          cases (r1.mono s2) with
          | @own _ p q1 =>
            obtain ⟨hf, ho, e2, e3⟩ := h2.at_ q q1
            cases e3 with
            | @lst us _ rr =>
              obtain ⟨s3, h3⟩ := h2.upd q q1 (.lst (rr.set (r.mono (s1.trans s2)) j))
              exact ⟨p, us, i, j, rfl, rfl, e2, by rw [rr.length]; exact e1, f _ _ _ _ _ _ (s1.trans (s2.trans s3)) h3 (e.mono (s1.trans (s2.trans s3))) t2⟩
        · exact t2.elim
      · exact t2.elim⟩⟩
end

/-! ### statements -/
section
variable {K : PySem.W.Frag} {X : Cx} {pos : Pos} {e : Expr} {te : TE} {de : DE} {st : Stmt} {rest : List Stmt} {t u : TS} {dt du : DS}
def dNext : DS := fun E δ O => E.nx δ O
def dSeq (t u : DS) : DS := fun E δ O => t { E with nx := u E } δ O
theorem snds_next : SndS K tNext dNext := ⟨fun σ H F m δ O E D h e t f => f.nx σ H F m δ O .refl h e t⟩
theorem pdss_nil : PDSs X [] tNext dNext := ⟨pss_nil, snds_next⟩
theorem snds_seq (h1 : SndS K t dt) (h2 : SndS K u du) : SndS K (tSeq t u) (dSeq dt du) := ⟨fun σ H F m δ O E D h e q f => h1.go σ H F m δ O _ _ h e q
  ⟨fun σ1 H1 F1 m1 δ1 O1 s1 h1' e1 q1 => h2.go σ1 H1 F1 m1 δ1 O1 E D h1' e1 q1 (f.mono s1), f.rt, f.bk, f.ct⟩⟩
theorem pdss_cons (h1 : PDS X st t dt) (h2 : PDSs X rest u du) : PDSs X (st :: rest) (tSeq t u) (dSeq dt du) := ⟨pss_cons h1.pe h2.pe, snds_seq h1.sn h2.sn⟩
theorem pdss_one (h1 : PDS X st t dt) : PDSs X [st] t dt := ⟨pss_one h1.pe, h1.sn⟩
theorem pds_pass : PDS X (.Pass pos) tNext dNext := ⟨ps_pass, snds_next⟩
def dNever : DS := fun _ _ _ => False
theorem pds_never : PDS X st tNever dNever := ⟨ps_never, ⟨fun _ _ _ _ _ _ _ _ _ _ t _ => t⟩⟩
def dDrop (t : DE) : DS := fun E δ O => t δ O fun _ O' => E.nx δ O'
theorem pds_expr (he : PD X e te de) (hs : swapsWith e none pos.line X.env = pure false := by rfl) : PDS X (.Expr e pos) (tDrop te) (dDrop de) := ⟨ps_expr he.pe hs, ⟨fun σ H F m δ O E D h en t f => he.sn.go σ H F m δ O _ _ h en t fun v H1 F1 m1 d O1 s1 h1 r1 t1 =>
  f.nx σ H1 F1 m1 δ O1 s1 h1 (en.mono s1) t1⟩⟩
def dRet (t : DE) : DS := fun E δ O => t δ O E.rt
theorem pds_ret (he : PD X e te de) : PDS X (.Return (some e) pos) (tRet te) (dRet de) := ⟨ps_ret he.pe, ⟨fun σ H F m δ O E D h en t f => he.sn.go σ H F m δ O _ _ h en t f.rt⟩⟩
def dIfS (c : DT) (t u : DS) : DS := fun E δ O => c δ O fun k O1 => if k = true then t E δ O1 else u E δ O1
theorem pds_if {c : Expr} {a b : List Stmt} {tc : TT} {dc : DT} (hc : PDT X c tc dc) (ha : PDSs X a t dt) (hb : PDSs X b u du) : PDS X (.If c a b pos) (tIfS tc t u) (dIfS dc dt du) := ⟨ps_if hc.pe ha.pe hb.pe, ⟨fun σ H F m δ O E D h en q f =>
  hc.sn.go σ H F m δ O _ _ h en q fun k H1 F1 m1 O1 s1 h1 t1 => by
    cases k with
    | true => exact ha.sn.go σ H1 F1 m1 δ O1 E D h1 (en.mono s1) t1 (f.mono s1)
    | false => exact hb.sn.go σ H1 F1 m1 δ O1 E D h1 (en.mono s1) t1 (f.mono s1)⟩⟩
def dAsg (t : DE) (g : DTg) : DS := fun E δ O => t δ O fun d O1 => g d δ O1 E.nx
theorem snds_asg {g : TG} {dg : DTg} (he : Snd K te de) (hg : SndG K g dg) : SndS K (tAsg te g) (dAsg de dg) := ⟨fun σ H F m δ O E D h en t f => he.go σ H F m δ O _ _ h en t fun v H1 F1 m1 d O1 s1 h1 r1 t1 =>
  hg.go v d σ H1 F1 m1 δ O1 _ _ h1 (en.mono s1) r1 t1 fun σ2 H2 F2 m2 δ2 O2 s2 h2 e2 t2 => f.nx σ2 H2 F2 m2 δ2 O2 (s1.trans s2) h2 e2 t2⟩
theorem pds_asg {tg : Expr} {g : TG} {dg : DTg} (he : PD X e te de) (hg : PDG X tg g dg) (hs : swapsWithSole [tg] e pos.line X.env = pure false := by rfl) (hw : swappedStores [tg] e X.env = pure none := by rfl)
    (h1 : (assignEach [tg] X.env).map (·.2) = [assign tg X.env] := by rfl) : PDS X (.Assign [tg] e pos) (tAsg te g) (dAsg de dg) := ⟨ps_asg he.pe hg.pe hs hw h1, snds_asg he.sn hg.sn⟩
theorem pds_set {i : Nat} {x : Str} {pos' : Pos} (hN : X.N.Nodup) (hi : X.N[i]? = some x) (hx : Loc X.env.scope x) (he : PD X e te de) (hs : swapsWith e (some (.Name x pos')) pos.line X.env = pure false := by rfl) (hf : X.fn x = true ∨ X.env.scope.names.lookup x = some .local := by first | exact .inl rfl | exact .inr rfl | assumption) :
    PDS X (.Assign [.Name x pos'] e pos) (tAsg te (gName i)) (dAsg de (dgName i)) := ⟨ps_set hN hi hx he.pe hs hf, snds_asg he.sn (sndg_name i)⟩
/-- x.f = e, x an instance that may change -/
def dsFld (C : Addr) (ta tv : DE) (f : Str) : DS := fun E δ O => tv δ O fun d O1 => ta δ O1 fun a O2 => match a with
  | .own h => match O2[h]? with
    | some (some (.ins C' gs)) => C' = C ∧ gs.length < 1000 ∧ E.nx δ (O2.set h (some (.ins C' (putG f d gs))))
    | _ => False
  | _ => False
theorem pds_fld {o value : Expr} {to tv : TE} {dO dv : DE} {f : Str} {C : Addr} {pos' : Pos} (ho : PD X o to dO) (hv : PD X value tv dv) (cl : Cls X.K C) (na : NoAttr X.K C f) (hs : swapsWith value (some (.Attribute o f pos')) pos.line X.env = pure false := by rfl) :
    PDS X (.Assign [.Attribute o f pos'] value pos) (sFld X.K to tv f) (dsFld C dO dv f) := ⟨ps_fld ho.pe hv.pe hs, ⟨fun σ H F m δ O E D h en t fn => hv.sn.go σ H F m δ O _ _ h en t fun v H1 F1 m1 d O1 s1 h1 r1 t1 =>
  ho.sn.go σ H1 F1 m1 δ O1 _ _ h1 (en.mono s1) t1 fun y H2 F2 m2 a O2 s2 h2 r2 t2 => by
    split at t2
    · rename_i k
      split at t2
      · rename_i C' gs q
        obtain ⟨ec, el, t2⟩ := t2
        subst ec
        cases r2 with
        | @own _ p q1 =>
          obtain ⟨hf, ho', e2, e3⟩ := h2.at_ q q1
          cases e3 with
          | @ins _ dx fs _ rr =>
            obtain ⟨s3, h3⟩ := h2.upd q q1 (.ins (dx := dx) (rr.put (r1.mono s2)))
            exact ⟨p, C', dx, fs, rfl, e2, cl, na, by rw [rr.length]; exact el, fn.nx _ _ _ _ _ _ (s1.trans (s2.trans s3)) h3 (en.mono (s1.trans (s2.trans s3))) t2⟩
      · exact t2.elim
    · exact t2.elim⟩⟩
/-! ### while -/
def dWhile (c : DT) (b : DS) : DS := fun E δ O => ∃ W : Nat → DSt → Own → Prop, (∃ n, W n δ O) ∧ ∀ n δ O, W n δ O →
  c δ O fun k O1 => if k = true then b { E with nx := fun δ' O' => ∃ n', n' < n ∧ W n' δ' O', ct := fun δ' O' => ∃ n', n' < n ∧ W n' δ' O', bk := E.nx } δ O1 else E.nx δ O1
theorem pds_while {c : Expr} {body : List Stmt} {tc : TT} {dc : DT} (hp : PassesOwn (model X.prog X.w) X.A X.env X.xe) (hc : PDT X c tc dc) (hb : PDSs X body t dt) : PDS X (.While c body [] pos) (tWhile tc t) (dWhile dc dt) := ⟨ps_while hp hc.pe hb.pe, ⟨fun σ H F m δ O E D h en q f => by
  obtain ⟨W, ⟨n0, w0⟩, turn⟩ := q
  refine ⟨fun n σ' H' => ∃ F' m' δ' O', Stp F H m F' H' m' ∧ Hol X.K F' H' m' O' ∧ EnvR X.K F' m' σ' δ' ∧ W n δ' O', ⟨n0, F, m, δ, O, .refl, h, en, w0⟩, ?_⟩
  rintro n σ1 H1 ⟨F1, m1, δ1, O1, s1, h1, e1, w1⟩
  refine hc.sn.go σ1 H1 F1 m1 δ1 O1 _ _ h1 e1 (turn n δ1 O1 w1) fun k H2 F2 m2 O2 s2 h2 t2 => ?_
  cases k with
  | true =>
    refine ⟨fun σ' H' => ∃ n', n' < n ∧ ∃ F' m' δ' O', Stp F H m F' H' m' ∧ Hol X.K F' H' m' O' ∧ EnvR X.K F' m' σ' δ' ∧ W n' δ' O', fun _ _ z => z, ?_⟩
    refine hb.sn.go σ1 H2 F2 m2 δ1 O2 _ _ h2 (e1.mono s2) t2 ⟨fun σ' H' F' m' δ' O' s' h' e' ⟨n', l, w'⟩ => ⟨n', l, F', m', δ', O', s1.trans (s2.trans s'), h', e', w'⟩, f.rt.mono (s1.trans s2), fun σ' H' F' m' δ' O' s' h' e' q' => f.nx σ' H' F' m' δ' O' (s1.trans (s2.trans s')) h' e' q', fun σ' H' F' m' δ' O' s' h' e' ⟨n', l, w'⟩ => ⟨n', l, F', m', δ', O', s1.trans (s2.trans s'), h', e', w'⟩⟩
  | false => exact f.nx σ1 H2 F2 m2 δ1 O2 (s1.trans s2) h2 (e1.mono s2) t2⟩⟩

/-! ### what is walked -/
structure ItD (K : PySem.W.Frag) (F : Hp) (m : List Addr) (J : It) (ds : List D) (chk : Own → Prop) : Prop where
  go : ∀ (i : Nat) (H F' : Hp) (m' : List Addr) (O : Own), Sub F m F' m' → Hol K F' H m' O → chk O → i < ds.length → J.go i H
  stop : ∀ (i : Nat) (H F' : Hp) (m' : List Addr) (O : Own), Sub F m F' m' → Hol K F' H m' O → chk O → i = ds.length → J.stop i H
  yld : ∀ (i : Nat) (H F' : Hp) (m' : List Addr) (O : Own) (x : V) (H' : Hp) (d : D), Sub F m F' m' → Hol K F' H m' O → chk O → ds[i]? = some d → J.yld i H x H' → ∃ F'', Stp F' H m' F'' H' m' ∧ Hol K F'' H' m' O ∧ Rep K F'' m' x d
abbrev DI := DSt → Own → (List D → (Own → Prop) → Own → Prop) → Prop
structure PDI (X : Cx) (tg iter : Expr) (wi : TI) (di : DI) : Prop where
  pe : PI X tg iter wi
  sn : ∀ (σ : L2.St) (H F : Hp) (m : List Addr) (δ : DSt) (O : Own) (R : List D → (Own → Prop) → Own → Prop) (Q : It → Hp → Prop), Hol X.K F H m O → EnvR X.K F m σ δ → di δ O R →
    (∀ J H' F' m' ds chk O', Stp F H m F' H' m' → Hol X.K F' H' m' O' → ItD X.K F' m' J ds chk → R ds chk O' → Q J H') → wi σ H Q
def forL (g : DTg) (b : DS) (chk : Own → Prop) (E : DEnds) : List D → DSt → Own → Prop
  | [], δ, O => chk O ∧ E.nx δ O
  | d :: ds, δ, O => chk O ∧ g d δ O fun δ1 O1 => b { E with nx := forL g b chk E ds, ct := forL g b chk E ds, bk := E.nx } δ1 O1
def dFor (di : DI) (g : DTg) (b : DS) : DS := fun E δ O => di δ O fun ds chk O1 => forL g b chk E ds δ O1
theorem drop_get {ds : List D} {i : Nat} {d : D} {r : List D} (e : ds.drop i = d :: r) : i < ds.length ∧ ds[i]? = some d ∧ ds.drop (i + 1) = r := by
  have hl : i < ds.length := by
    by_cases q : i < ds.length
    · exact q
    · rw [List.drop_eq_nil_of_le (Nat.le_of_not_lt q)] at e; cases e
  rw [List.drop_eq_getElem_cons hl] at e
  injection e with e1 e2
  exact ⟨hl, by rw [List.getElem?_eq_getElem hl, e1], e2⟩
theorem pds_for {tg iter : Expr} {body : List Stmt} {wi : TI} {di : DI} {g : TG} {dg : DTg} (hp : PassesOwn (model X.prog X.w) X.A X.env X.xe) (hc : X.calm = true) (hi : PDI X tg iter wi di) (hg : PDG X tg g dg) (hb : PDSs X body t dt)
    (hs : ∀ x, foldedSetIterable iter X.env x = pure x := by intro _; rfl) : PDS X (.For tg iter body [] pos) (tFor wi g t) (dFor di dg dt) := ⟨ps_for hp hc hi.pe hg.pe hb.pe hs, ⟨fun σ H F m δ O E D h en q f => by
  refine hi.sn σ H F m δ O _ _ h en q fun J H0 F0 m0 ds chk O0 s0 h0 jd q0 => ?_
  refine ⟨fun i n σ' H' => (n = ds.length - i ∧ i ≤ ds.length) ∧ ∃ F' m' δ' O', Stp F0 H0 m0 F' H' m' ∧ Hol X.K F' H' m' O' ∧ EnvR X.K F' m' σ' δ' ∧ forL dg dt chk E (ds.drop i) δ' O', ⟨ds.length, ⟨rfl, Nat.zero_le _⟩, F0, m0, δ, O0, .refl, h0, en.mono s0, q0⟩, ?_⟩
  rintro i n σ1 H1 ⟨⟨rfl, hle⟩, F1, m1, δ1, O1, s1, h1, e1, w1⟩
  cases dr : ds.drop i with
  | nil =>
    rw [dr] at w1
    exact .inl ⟨jd.stop i H1 F1 m1 O1 s1.sub h1 w1.1 (Nat.le_antisymm hle (List.drop_eq_nil_iff.mp dr)), f.nx σ1 H1 F1 m1 δ1 O1 (s0.trans s1) h1 e1 w1.2⟩
  | cons d r =>
    rw [dr] at w1
    obtain ⟨hl, hd, hr⟩ := drop_get dr
    refine .inr ⟨jd.go i H1 F1 m1 O1 s1.sub h1 w1.1 hl, fun σ' H' => ∃ F' m' δ' O', Stp F0 H0 m0 F' H' m' ∧ Hol X.K F' H' m' O' ∧ EnvR X.K F' m' σ' δ' ∧ forL dg dt chk E r δ' O', fun σ' H' ⟨F', m', δ', O', a, b, c, w⟩ => ⟨ds.length - (i + 1), by omega, ⟨rfl, hl⟩, F', m', δ', O', a, b, c, by rw [hr]; exact w⟩, fun x H2 y => ?_⟩
    obtain ⟨F2, s2, h2, r2⟩ := jd.yld i H1 F1 m1 O1 x H2 d s1.sub h1 w1.1 hd y
    refine hg.sn.go x d σ1 H2 F2 m1 δ1 O1 _ _ h2 (e1.mono s2) r2 w1.2 fun σ3 H3 F3 m3 δ3 O3 s3 h3 e3 t3 => ?_
    have up := s1.trans (s2.trans s3)
    exact hb.sn.go σ3 H3 F3 m3 δ3 O3 _ _ h3 e3 t3 ⟨fun σ' H' F' m' δ' O' s' h' e' q' => ⟨F', m', δ', O', up.trans s', h', e', q'⟩, f.rt.mono (s0.trans up), fun σ' H' F' m' δ' O' s' h' e' q' => f.nx σ' H' F' m' δ' O' (s0.trans (up.trans s')) h' e' q', fun σ' H' F' m' δ' O' s' h' e' q' => ⟨F', m', δ', O', up.trans s', h', e', q'⟩⟩⟩⟩
/-- a list; a tuple; range -/
def diL (ta : DE) : DI := fun δ O R => ta δ O fun a O1 => oK (asL O1 a) fun ds => R ds (fun O' => asL O' a = some ds) O1
theorem pdi_list {tg l : Expr} {tl : TE} {dl : DE} (h : PD X l tl dl) : PDI X tg l (iList X.K tl) (diL dl) := ⟨pi_list h.pe, fun σ H F m δ O R Q hh en q f => h.sn.go σ H F m δ O _ _ hh en q fun v H1 F1 m1 a O1 s1 h1 r1 t1 => by
  obtain ⟨ds, e0, t1⟩ := t1.ex
  obtain ⟨p, xs, rfl, hp, rr⟩ := asL_rep h1 r1 e0
  have now : ∀ {H' F' : Hp} {m' : List Addr} {O' : Own}, Sub F1 m1 F' m' → Hol X.K F' H' m' O' → asL O' a = some ds → ∃ ys, H' p = some (.lst ys) ∧ RepL X.K F' m' ys ds := fun s' h' e' => by
    obtain ⟨p', ys, ep, hp', rr'⟩ := asL_rep h' (Rep.mono0 s' r1) e'
    cases ep
    exact ⟨ys, hp', rr'⟩
  refine ⟨p, rfl, ⟨xs, SqL.of hp⟩, f (Itl X.K p) H1 F1 m1 ds _ O1 s1 h1 ⟨fun i H' F' m' O' s' h' e' hi => ?_, fun i H' F' m' O' s' h' e' hi => ?_, fun i H' F' m' O' x H2 d s' h' e' hd y => ?_⟩ t1⟩
  · obtain ⟨ys, hp', rr'⟩ := now s' h' e'
    have hl := rr'.length
    exact ⟨ys, ys[i], SqL.of hp', List.getElem?_eq_getElem (by omega)⟩
  · obtain ⟨ys, hp', rr'⟩ := now s' h' e'
    have hl := rr'.length
    exact ⟨ys, SqL.of hp', by omega⟩
  · obtain ⟨ys, hp', rr'⟩ := now s' h' e'
    obtain ⟨e1, y⟩ := y
    subst e1
    obtain ⟨v, e2, r2⟩ := rr'.get hd
    have e3 := y ys (SqL.of hp')
    rw [e2] at e3
    cases e3
    exact ⟨F', .refl, h', r2⟩⟩
def diT (ta : DE) : DI := fun δ O R => ta δ O fun a O1 => match a with
  | .tup ds => R ds (fun _ => True) O1
  | _ => False
theorem pdi_tup {tg l : Expr} {tl : TE} {dl : DE} (h : PD X l tl dl) : PDI X tg l (iTup X.K tl) (diT dl) := ⟨pi_tup h.pe, fun σ H F m δ O R Q hh en q f => h.sn.go σ H F m δ O _ _ hh en q fun v H1 F1 m1 a O1 s1 h1 r1 t1 => by
  cases r1 with
  | @tup p xs ds q r =>
    refine ⟨p, rfl, ⟨xs, SqT.of (h1.ex _ _ q)⟩, f (Itt X.K p) H1 F1 m1 ds _ O1 s1 h1 ⟨fun i H' F' m' O' s' h' _ hi => ?_, fun i H' F' m' O' s' h' _ hi => ?_, fun i H' F' m' O' x H2 d s' h' _ hd y => ?_⟩ t1⟩
    · have hl := r.length
      exact ⟨xs, xs[i], SqT.of (h'.ex _ _ (s'.ex _ _ q)), List.getElem?_eq_getElem (by omega)⟩
    · have hl := r.length
      exact ⟨xs, SqT.of (h'.ex _ _ (s'.ex _ _ q)), by omega⟩
    · obtain ⟨e1, y⟩ := y
      subst e1
      obtain ⟨v, e2, r2⟩ := r.get hd
      have e3 := y xs (SqT.of (h'.ex _ _ (s'.ex _ _ q)))
      rw [e2] at e3
      cases e3
      exact ⟨F', .refl, h', Rep.mono0 s' r2⟩
  | _ => exact t1.elim⟩
/-- lo, lo + 1, .. n of them -/
def rngD (lo : Int) (n : Nat) : List D := (List.range n).map fun i => D.int (lo + (i : Nat))
theorem rngD_get {lo : Int} {n i : Nat} {d : D} (h : (rngD lo n)[i]? = some d) : d = .int (lo + (i : Nat)) := by
  unfold rngD at h
  rw [List.getElem?_map] at h
  cases q : (List.range n)[i]? with
  | none => rw [q] at h; cases h
  | some j =>
    rw [q] at h
    have e := List.getElem?_range (n := n) (i := i)
    have hj : j = i := by
      obtain ⟨hi, e2⟩ := List.getElem?_eq_some_iff.mp q
      rw [List.getElem_range] at e2
      exact e2.symm
    subst hj
    exact (Option.some.inj h).symm
theorem rngD_length (lo : Int) (n : Nat) : (rngD lo n).length = n := by simp [rngD]
theorem itd_rng {F : Hp} {m : List Addr} (lo : Int) (n : Nat) : ItD K F m (Itr lo n) (rngD lo n) (fun _ => True) where
  go := fun i H F' m' O _ _ _ hi => by rw [rngD_length] at hi; exact hi
  stop := fun i H F' m' O _ _ _ hi => by rw [rngD_length] at hi; exact Nat.le_of_eq hi.symm
  yld := fun i H F' m' O x H' d _ h _ hd y => by
    obtain ⟨e1, e2⟩ := y
    subst e1 e2
    rw [rngD_get hd]
    exact ⟨F', .refl, h, .int _⟩
/-- 0, 1, .. n of them -/
def rngN (n : Nat) : List D := (List.range n).map fun i => D.int ((i : Nat) : Int)
theorem rngN_eq (n : Nat) : rngN n = rngD 0 n := by
  unfold rngN rngD
  exact List.map_congr_left fun i _ => by rw [Int.zero_add]
def diR1 (ta : DE) : DI := fun δ O R => ta δ O fun a O1 => match a with
  | .int j => (-1000000000 ≤ j ∧ j ≤ 1000000000) ∧ R (rngN j.toNat) (fun _ => True) O1
  | _ => False
theorem pdi_rng1 {tg a : Expr} {ta : TE} {da : DE} {p pos : Pos} (hg : Gl X "range") (hm : X.mg "range" = none) (ha : PD X a ta da) (hs : starEach [a] X.env = [(false, eval a X.env)] := by rfl) : PDI X tg (.Call (.Name "range" p) [a] [] pos) (iRng1 (tCons ta tNil)) (diR1 da) :=
  ⟨pi_range1 hg hm (pa_cons ha.pe pa_nil hs) hs, fun σ H F m δ O R Q hh en q f => ha.sn.go σ H F m δ O _ _ hh en q fun v H1 F1 m1 a O1 s1 h1 r1 t1 => by
    cases r1 with
    | int j => exact ⟨j, rfl, by omega, by omega, f _ H1 F1 m1 _ _ O1 s1 h1 (by rw [rngN_eq]; exact itd_rng 0 j.toNat) t1.2⟩
    | _ => exact t1.elim⟩
def diR2 (ta tb : DE) : DI := fun δ O R => ta δ O fun a O1 => tb δ O1 fun b O2 => match a, b with
  | .int i, .int j => (-1000000000 ≤ i ∧ i ≤ 1000000000 ∧ -1000000000 ≤ j ∧ j ≤ 1000000000) ∧ R (rngD i (j - i).toNat) (fun _ => True) O2
  | _, _ => False
theorem pdi_rng2 {tg a b : Expr} {ta tb : TE} {da db : DE} {p pos : Pos} (hg : Gl X "range") (hm : X.mg "range" = none) (ha : PD X a ta da) (hb : PD X b tb db) (hs : starEach [a, b] X.env = [(false, eval a X.env), (false, eval b X.env)] := by rfl)
    (hs2 : starEach [b] X.env = [(false, eval b X.env)] := by rfl) (hs3 : starEach [a, b] X.env = (false, eval a X.env) :: starEach [b] X.env := by rfl) : PDI X tg (.Call (.Name "range" p) [a, b] [] pos) (iRng2 (tCons ta (tCons tb tNil))) (diR2 da db) :=
  ⟨pi_range2 hg hm (pa_cons ha.pe (pa_cons hb.pe pa_nil hs2) hs3) hs hs2, fun σ H F m δ O R Q hh en q f => ha.sn.go σ H F m δ O _ _ hh en q fun v H1 F1 m1 a O1 s1 h1 r1 t1 =>
    hb.sn.go σ H1 F1 m1 δ O1 _ _ h1 (en.mono s1) t1 fun w H2 F2 m2 b O2 s2 h2 r2 t2 => by
      cases r1 with
      | int i =>
        cases r2 with
        | int j => exact ⟨i, j, rfl, by omega, f _ H2 F2 m2 _ _ O2 (s1.trans s2) h2 (itd_rng i (j - i).toNat) t2.2⟩
        | _ => exact t2.elim
      | _ => cases r2 <;> exact t2.elim⟩
/-- enumerate of a list: each item in a new pair -/
def enumD : Nat → List D → List D
  | _, [] => []
  | i, d :: ds => .tup [.int (i : Nat), d] :: enumD (i + 1) ds
theorem enumD_get : ∀ {ds : List D} {k i : Nat} {d : D}, (enumD k ds)[i]? = some d → ∃ d0, ds[i]? = some d0 ∧ d = .tup [.int ((k + i : Nat) : Int), d0]
  | [], k, i, d, h => by simp [enumD] at h
  | d0 :: ds, k, 0, d, h => by
    simp [enumD] at h
    exact ⟨d0, rfl, by rw [← h] <;> rfl⟩
  | d0 :: ds, k, i + 1, d, h => by
    have h' : (enumD (k + 1) ds)[i]? = some d := by simpa [enumD] using h
    obtain ⟨d1, e1, e2⟩ := enumD_get h'
    exact ⟨d1, by simpa using e1, by rw [e2]; congr 3; omega⟩
theorem enumD_length : ∀ (ds : List D) (k : Nat), (enumD k ds).length = ds.length
  | [], _ => rfl
  | d :: ds, k => by simp [enumD, enumD_length ds (k + 1)]
def diEn (ta : DE) : DI := fun δ O R => ta δ O fun a O1 => oK (asL O1 a) fun ds => R (enumD 0 ds) (fun O' => asL O' a = some ds) O1
theorem pdi_enum {l : Expr} {tl : TE} {dl : DE} {p pos tpos : Pos} {elts : List Expr} {kk : Nat} (hg : Gl X "enumerate") (hm : X.mg "enumerate" = none) (h : PD X l tl dl) (hs : starEach [l] X.env = [(false, eval l X.env)] := by rfl) :
    PDI X (.Tuple elts kk tpos) (.Call (.Name "enumerate" p) [l] [] pos) (iEnum X.K (tCons tl tNil)) (diEn dl) := ⟨pi_enum hg hm (pa_cons h.pe pa_nil hs) hs, fun σ H F m δ O R Q hh en q f => h.sn.go σ H F m δ O _ _ hh en q fun v H1 F1 m1 a O1 s1 h1 r1 t1 => by
  obtain ⟨ds, e0, t1⟩ := t1.ex
  obtain ⟨p, xs, rfl, hp, rr⟩ := asL_rep h1 r1 e0
  have now : ∀ {H' F' : Hp} {m' : List Addr} {O' : Own}, Sub F1 m1 F' m' → Hol X.K F' H' m' O' → asL O' a = some ds → ∃ ys, H' p = some (.lst ys) ∧ RepL X.K F' m' ys ds := fun s' h' e' => by
    obtain ⟨p', ys, ep, hp', rr'⟩ := asL_rep h' (Rep.mono0 s' r1) e'
    cases ep
    exact ⟨ys, hp', rr'⟩
  refine ⟨p, xs, rfl, SqL.of hp, f (Ite X.K p) H1 F1 m1 _ _ O1 s1 h1 ⟨fun i H' F' m' O' s' h' e' hi => ?_, fun i H' F' m' O' s' h' e' hi => ?_, fun i H' F' m' O' x H2 d s' h' e' hd y => ?_⟩ t1⟩
  · rw [enumD_length] at hi
    obtain ⟨ys, hp', rr'⟩ := now s' h' e'
    have hl := rr'.length
    exact ⟨ys, ys[i], SqL.of hp', List.getElem?_eq_getElem (by omega)⟩
  · rw [enumD_length] at hi
    obtain ⟨ys, hp', rr'⟩ := now s' h' e'
    have hl := rr'.length
    exact ⟨ys, SqL.of hp', by omega⟩
  · obtain ⟨ys, hp', rr'⟩ := now s' h' e'
    obtain ⟨T, x0, e1, n, e2, y⟩ := y
    subst e1 e2
    obtain ⟨d0, e3, e4⟩ := enumD_get hd
    subst e4
    obtain ⟨v, e5, r2⟩ := rr'.get e3
    have e6 := y ys (SqL.of hp')
    rw [e5] at e6
    cases e6
    obtain ⟨s3, h3⟩ := h'.frz (ho := .tup [.int (i : Nat), x0]) n
    refine ⟨_, s3, h3, .tup upd_same (.cons ?_ (.cons (r2.mono s3) .nil))⟩
    rw [Nat.zero_add]
    exact .int _⟩

/-! ### comprehensions -/
def wipeD (δ : DSt) : List Nat → DSt
  | [] => δ
  | v :: vs => (wipeD δ vs).set v none
theorem EnvR.set0 {F : Hp} {m : List Addr} {σ : L2.St} {δ : DSt} (e : EnvR K F m σ δ) (i : Nat) : EnvR K F m (σ.set i none) (δ.set i none) := by
  refine ⟨by rw [List.length_set, List.length_set, e.len], fun j d' h => ?_⟩
  by_cases q : i = j
  · subst q
    by_cases hi : i < δ.length
    · rw [List.getElem?_set_self hi] at h
      cases h
    · rw [List.set_eq_of_length_le (Nat.le_of_not_lt hi)] at h
      exact absurd (List.getElem?_eq_some_iff.mp h).1 hi
  · rw [List.getElem?_set_ne q] at h ⊢
    exact e.at_ j d' h
theorem EnvR.wipe {F : Hp} {m : List Addr} {σ : L2.St} {δ : DSt} (e : EnvR K F m σ δ) : ∀ vs : List Nat, EnvR K F m (wipe σ vs) (wipeD δ vs)
  | [] => e
  | v :: vs => (EnvR.wipe e vs).set0 v
def lcL (g : DTg) (tt : DT) (te : DE) (chk : Own → Prop) (δ : DSt) (R : List D → Own → Prop) : List D → List D → Own → Prop
  | [], acc, O => chk O ∧ R acc O
  | d :: ds, acc, O => chk O ∧ g d δ O fun δ2 O2 => tt δ2 O2 fun b O3 => if b = true then te δ2 O3 fun y O4 => acc.length < 1000000 ∧ lcL g tt te chk δ R ds (acc ++ [y]) O4 else lcL g tt te chk δ R ds acc O3
def dLc (di : DI) (g : DTg) (tt : DT) (te : DE) (vs : List Nat) : DA := fun δ O R => di δ O fun ds chk O1 => lcL g tt te chk (wipeD δ vs) R ds [] O1
def dYes : DT := fun _ O R => R true O
theorem snd_yes : SndT K tYes dYes := ⟨fun σ H F m δ O R Q h e t f => f true H F m O .refl h t⟩
structure PDTs (X : Cx) (ifs : List Expr) (tt : TT) (dt : DT) : Prop where
  pe : PTs X ifs tt
  sn : SndT X.K tt dt
theorem pdts_nil : PDTs X [] tYes dYes := ⟨pts_nil, snd_yes⟩
theorem pdts_one {c : Expr} {tt : TT} {dt : DT} (h : PDT X c tt dt) : PDTs X [c] tt dt := ⟨pts_one h.pe, h.sn⟩
theorem sndl_lc {wi : TI} {di : DI} {g : TG} {dg : DTg} {tt : TT} {dt : DT} {vs : List Nat} (hw : ∀ (σ : L2.St) (H F : Hp) (m : List Addr) (δ : DSt) (O : Own) (R : List D → (Own → Prop) → Own → Prop) (Q : It → Hp → Prop), Hol K F H m O → EnvR K F m σ δ → di δ O R →
    (∀ J H' F' m' ds chk O', Stp F H m F' H' m' → Hol K F' H' m' O' → ItD K F' m' J ds chk → R ds chk O' → Q J H') → wi σ H Q) (hg : SndG K g dg) (ho : Own1 vs g) (ht : SndT K tt dt) (he : Snd K te de) : SndL K (tLc wi g tt te vs) (dLc di dg dt de vs) := ⟨fun σ H F m δ O R Q h en q f => by
  refine hw σ H F m δ O _ _ h en q fun J H0 F0 m0 ds chk O0 s0 h0 jd q0 => ?_
  intro L hL
  have fL : F0 L = none := by
    cases z : F0 L with
    | none => rfl
    | some u => have := h0.ex L u z; rw [hL] at this; cases this
  have mL : L ∉ m0 := fun z => by obtain ⟨u, e⟩ := h0.th L z; rw [hL] at e; cases e
  -- L stands apart from all that the block knows
  have keep : ∀ {F1 H1 F2 H2 : Hp} {m1 m2 : List Addr} {acc : List V}, F1 L = none → L ∉ m1 → H1 L = some (.lst acc) → Stp F1 H1 m1 F2 H2 m2 → F2 L = none ∧ L ∉ m2 ∧ H2 L = some (.lst acc) := fun a b c s =>
    ⟨s.nf L _ c b a, (fun z => by
      have q := s.nw L z b
      rw [c] at q
      cases q), s.fr L _ c b⟩
  have put : ∀ {F1 H1 : Hp} {m1 : List Addr} {O1 : Own} {o : HO}, F1 L = none → L ∉ m1 → Hol K F1 H1 m1 O1 → Hol K F1 (L2.upd H1 L o) m1 O1 := fun {F1 H1 m1 O1 o} a b h => by
    refine ⟨fun p u z => ?_, h.nd, fun p hp => ?_, h.len, fun k u e => ?_⟩
    · rw [upd_ne (ne_of_none z a)]; exact h.ex p u z
    · obtain ⟨u, hu⟩ := h.th p hp
      exact ⟨u, by rw [upd_ne (fun z => b (by rw [← z]; exact hp))]; exact hu⟩
    · obtain ⟨p, ho', e1, e2, e3, e4⟩ := h.own k u e
      exact ⟨p, ho', e1, e2, by rw [upd_ne (fun z => b (by rw [← z]; exact List.mem_of_getElem? e1))]; exact e3, e4⟩
  -- the state of the walk
  let St' : Nat → Hp → Prop := fun i H' => ∃ F' m' O' acc as, Stp F0 H0 m0 F' (fun a => if a = L then none else H' a) m' ∧ Hol K F' H' m' O' ∧ F' L = none ∧ L ∉ m' ∧ H' L = some (.lst as) ∧ RepL K F' m' as acc ∧ lcL dg dt de chk (wipeD δ vs) R (ds.drop i) acc O'
  have st0 : St' 0 (L2.upd H0 L (.lst [])) := ⟨F0, m0, O0, [], [], ⟨fun _ _ z => z, List.prefix_refl _, fun a o z _ => by
    show (if a = L then none else L2.upd H0 L (.lst []) a) = some o
    have ne : a ≠ L := fun e => by rw [e, hL] at z; cases z
    rw [if_neg ne, upd_ne ne]
    exact z, fun _ z n => absurd z n, fun _ _ _ _ z => z⟩, put fL mL h0, fL, mL, upd_same, .nil, q0⟩
  refine ⟨fun i n H' => (n = ds.length - i ∧ i ≤ ds.length) ∧ St' i H', ⟨ds.length, ⟨rfl, Nat.zero_le _⟩, st0⟩, ?_⟩
  rintro i n H1 ⟨⟨rfl, hle⟩, F1, m1, O1, acc, as, s1, h1, f1, n1, l1, r1, w1⟩
  have sb1 : Sub F0 m0 F1 m1 := s1.sub
  -- a step behind H1 is a step from H0
  have next : ∀ {F2 H2 : Hp} {m2 : List Addr}, Stp F1 H1 m1 F2 H2 m2 → Stp F0 H0 m0 F2 (fun a => if a = L then none else H2 a) m2 := fun {F2 H2 m2} s => by
    refine ⟨fun a o z => s.ex a o (s1.ex a o z), s1.pre.trans s.pre, fun a o z nm => ?_, fun a z nm => ?_, fun a o z nm fz => ?_⟩
    · have z1 := s1.fr a o z nm
      have ne : a ≠ L := fun e => by rw [e, hL] at z; cases z
      simp only [if_neg ne] at z1 ⊢
      refine s.fr a o z1 fun y => ?_
      have := s1.nw a y nm
      rw [z] at this
      cases this
    · by_cases y : a ∈ m1
      · exact s1.nw a y nm
      · have z1 := s.nw a z y
        cases u : H0 a with
        | none => rfl
        | some o =>
          have z2 := s1.fr a o u nm
          have ne : a ≠ L := fun e => by rw [e, hL] at u; cases u
          simp only [if_neg ne] at z2
          rw [z1] at z2
          cases z2
    · have z1 := s1.fr a o z nm
      have ne : a ≠ L := fun e => by rw [e, hL] at z; cases z
      simp only [if_neg ne] at z1
      refine s.nf a o z1 (fun y => ?_) (s1.nf a o z nm fz)
      have := s1.nw a y nm
      rw [z] at this
      cases this
  cases dr : ds.drop i with
  | nil =>
    rw [dr] at w1
    refine .inl ⟨jd.stop i H1 F1 m1 O1 sb1 h1 w1.1 (Nat.le_antisymm hle (List.drop_eq_nil_iff.mp dr)), ?_⟩
    have hh : Hol K F1 (fun a => if a = L then none else H1 a) m1 O1 := by
      refine ⟨fun p u z => ?_, h1.nd, fun p hp => ?_, h1.len, fun k u e => ?_⟩
      · simp only [if_neg (ne_of_none z f1)]; exact h1.ex p u z
      · obtain ⟨u, hu⟩ := h1.th p hp
        exact ⟨u, by simp only [if_neg (fun z : p = L => n1 (by rw [← z]; exact hp))]; exact hu⟩
      · obtain ⟨p, ho', e1, e2, e3, e4⟩ := h1.own k u e
        exact ⟨p, ho', e1, e2, by simp only [if_neg (fun z : p = L => n1 (by rw [← z]; exact List.mem_of_getElem? e1))]; exact e3, e4⟩
    have e := f L (fun a => if a = L then none else H1 a) F1 m1 as acc O1 (s0.trans s1) hh (by simp) r1 w1.2
    have eq : L2.upd (fun a => if a = L then none else H1 a) L (.lst as) = H1 := by
      funext b
      by_cases z : b = L
      · rw [z, upd_same, l1]
      · rw [upd_ne z]; simp only [if_neg z]
    rw [eq] at e
    exact e
  | cons d r =>
    rw [dr] at w1
    obtain ⟨hl, hd, hr⟩ := drop_get dr
    refine .inr ⟨jd.go i H1 F1 m1 O1 sb1 h1 w1.1 hl, St' (i + 1), fun H' w => ⟨ds.length - (i + 1), by omega, ⟨rfl, hl⟩, w⟩, fun x H2 y => ?_⟩
    obtain ⟨F2, s2, h2, r2⟩ := jd.yld i H1 F1 m1 O1 x H2 d sb1 h1 w1.1 hd y
    have en2 : EnvR K F2 m1 (L2.wipe σ vs) (wipeD δ vs) := ((en.mono (s0.trans s1)).wipe vs).mono s2
    have wi : L2.wipe (L2.wipe σ vs) vs = L2.wipe σ vs := by
      have : ∀ us : List Nat, (∀ u ∈ us, u ∈ vs) → L2.wipe (L2.wipe σ us) vs = L2.wipe σ vs := by
        intro us
        induction us with
        | nil => intro _; rfl
        | cons u us ih =>
          intro hu
          show L2.wipe ((L2.wipe σ us).set u none) vs = _
          rw [wipe_set (hu u List.mem_cons_self), ih fun v hv => hu v (List.mem_cons_of_mem _ hv)]
      exact this vs fun _ h => h
    have gg := ho.go x (L2.wipe σ vs) H2 (fun σ2 H3 => tt σ2 H3 fun b H4 => if b = true then te σ2 H4 fun y H5 => ∃ acc, H5 L = some (.lst acc) ∧ acc.length < sizeLine ∧ St' (i + 1) (L2.upd H5 L (.lst (acc ++ [y]))) else St' (i + 1) H4) (by
      refine hg.go x d _ H2 F2 m1 _ O1 _ _ h2 en2 r2 w1.2 fun σ3 H3 F3 m3 δ3 O3 s3 h3 e3 t3 => ?_
      refine ht.go σ3 H3 F3 m3 δ3 O3 _ _ h3 e3 t3 fun b H4 F4 m4 O4 s4 h4 t4 => ?_
      have s24 := s2.trans (s3.trans s4)
      obtain ⟨f4, n4, l4⟩ := keep f1 n1 l1 s24
      cases b with
      | true =>
        refine he.go σ3 H4 F4 m4 δ3 O4 _ _ h4 (e3.mono s4) t4 fun v H5 F5 m5 w O5 s5 h5 r5 t5 => ?_
        have s25 := s24.trans s5
        obtain ⟨f5, n5, l5⟩ := keep f1 n1 l1 s25
        have la := r1.length
        refine ⟨as, l5, sz5' (by rw [la]; exact t5.1), F5, m5, O5, acc ++ [w], as ++ [v], ?_, put f5 n5 h5, f5, n5, upd_same, (r1.mono s25).append (.cons r5 .nil), by rw [hr]; exact t5.2⟩
        have q := next s25
        have eq : (fun a => if a = L then none else L2.upd H5 L (.lst (as ++ [v])) a) = fun a => if a = L then none else H5 a := by
          funext a
          by_cases z : a = L
          · simp only [if_pos z]
          · simp only [if_neg z]; rw [upd_ne z]
        rw [eq]
        exact q
      | false => exact ⟨F4, m4, O4, acc, as, next s24, h4, f4, n4, l4, r1.mono s24, by rw [hr]; exact t4⟩)
    rw [wi] at gg
    exact gg⟩
theorem pl_lc {elt tg iter : Expr} {ifs : List Expr} {scope : Scope} {own : List (Str × Nat)} {wi : TI} {di : DI} {g : TG} {dg : DTg} {tt : TT} {dt : DT} (hc : X.calm = true) (hN : X.N.Nodup) (hi : PDI X tg iter wi di) (ok : BlkOk X.N X.env.scope scope own)
    (hg : ∀ (s : Shared) (H : Hp) (C : Addr) (cl : List (Str × Addr)) (fp : List Addr), PDG (X.blk s H scope (compEnvC scope cl C X.env) fp) tg g dg) (ho : Own1 (own.map (·.2)) g) (ht : ∀ (s : Shared) (H : Hp) (C : Addr) (cl : List (Str × Addr)) (fp : List Addr), PDTs (X.blk s H scope (compEnvC scope cl C X.env) fp) ifs tt dt)
    (he : ∀ (s : Shared) (H : Hp) (C : Addr) (cl : List (Str × Addr)) (fp : List Addr), PD (X.blk s H scope (compEnvC scope cl C X.env) fp) elt te de) (hs : ∀ x, foldedSetIterable iter X.env x = pure x := by intro _; rfl) :
    PDL X (.ListComp elt [⟨tg, iter, ifs, 0⟩] scope pos) (tLc wi g tt te (own.map (·.2))) (dLc di dg dt de (own.map (·.2))) :=
  ⟨pe_lc hc hN hi.pe ok (fun s H C cl fp => (hg s H C cl fp).pe) (fun s H C cl fp => (ht s H C cl fp).pe) (fun s H C cl fp => (he s H C cl fp).pe) hs,
    sndl_lc hi.sn (hg {} (fun _ => none) 0 [] []).sn ho (ht {} (fun _ => none) 0 [] []).sn (he {} (fun _ => none) 0 [] []).sn⟩
/-- name = [..] on one line, the name a local -/
theorem pds_setLc {i : Nat} {y : Str} {py : Pos} {elt tg iter : Expr} {ifs : List Expr} {scope : Scope} {own : List (Str × Nat)} {spos : Pos} {wi : TI} {di : DI} {g : TG} {dg : DTg} {tt : TT} {dt : DT} (hc : X.calm = true) (hN : X.N.Nodup) (hy : X.N[i]? = some y) (hyl : X.env.scope.names.lookup y = some .local)
    (hsw : swapsWith (.ListComp elt [⟨tg, iter, ifs, 0⟩] scope pos) (some (.Name y py)) spos.line X.env = pure true) (hi : PDI X tg iter wi di) (ok : BlkOk X.N X.env.scope scope own)
    (hg : ∀ (s : Shared) (H : Hp) (C : Addr) (cl : List (Str × Addr)) (fp : List Addr), PDG (X.blk s H scope (compEnvC scope cl C X.env) fp) tg g dg) (ho : Own1 (own.map (·.2)) g) (ht : ∀ (s : Shared) (H : Hp) (C : Addr) (cl : List (Str × Addr)) (fp : List Addr), PDTs (X.blk s H scope (compEnvC scope cl C X.env) fp) ifs tt dt)
    (he : ∀ (s : Shared) (H : Hp) (C : Addr) (cl : List (Str × Addr)) (fp : List Addr), PD (X.blk s H scope (compEnvC scope cl C X.env) fp) elt te de) (hs : ∀ x, foldedSetIterable iter X.env x = pure x := by intro _; rfl) :
    PS X (.Assign [.Name y py] (.ListComp elt [⟨tg, iter, ifs, 0⟩] scope pos) spos) (tAsg (tLc wi g tt te (own.map (·.2))) (gName i)) ∧ SndL X.K (tLc wi g tt te (own.map (·.2))) (dLc di dg dt de (own.map (·.2))) :=
  ⟨ps_setLc hc hN hy hyl hsw hi.pe ok (fun s H C cl fp => (hg s H C cl fp).pe) (fun s H C cl fp => (ht s H C cl fp).pe) (fun s H C cl fp => (he s H C cl fp).pe) hs,
    sndl_lc hi.sn (hg {} (fun _ => none) 0 [] []).sn ho (ht {} (fun _ => none) 0 [] []).sn (he {} (fun _ => none) 0 [] []).sn⟩
theorem snd_frz {t : DA} (h : SndL K te t) : Snd K te (dFrz t) := ⟨fun σ H F m δ O R Q hh en hr f => h.go σ H F m δ O _ Q hh en hr fun p H' F' m' xs ds O' s h1 n r q => (f.mono s).lst h1 r q p n⟩
theorem snd_new {t : DA} (h : SndL K te t) : Snd K te (dNew t) := ⟨fun σ H F m δ O R Q hh en hr f => h.go σ H F m δ O _ Q hh en hr fun p H' F' m' xs ds O' s h1 n r q => by
  obtain ⟨s2, h2⟩ := h1.new n (.lst r)
  refine f _ _ _ _ _ _ (s.trans s2) h2 (.own ?_) q
  rw [h1.len, List.getElem?_append_right (Nat.le_refl _), Nat.sub_self]
  rfl⟩
theorem lc_frz {i : Nat} {t : DA} (h : PS X st (tAsg te (gName i)) ∧ SndL X.K te t) : PDS X st (tAsg te (gName i)) (dAsg (dFrz t) (dgName i)) := ⟨h.1, snds_asg (snd_frz h.2) (sndg_name i)⟩
theorem lc_new {i : Nat} {t : DA} (h : PS X st (tAsg te (gName i)) ∧ SndL X.K te t) : PDS X st (tAsg te (gName i)) (dAsg (dNew t) (dgName i)) := ⟨h.1, snds_asg (snd_new h.2) (sndg_name i)⟩
end
end DL

/-! DL, part f: defs and their calls; what is done with a def's own lists at its end; methods of lists; dicts with text keys. -/
namespace DL
open PySem L2

/-! ### promises over data -/
abbrev DSp := List D → Own → (D → Own → Prop) → Prop
def spD (K : PySem.W.Frag) (S : DSp) : Sp := fun vs H Q _ => ∃ F m ds O R, RepL K F m vs ds ∧ Hol K F H m O ∧ S ds O R ∧ Fin K F H m R Q
abbrev FnD (P : Program) (w : World) (K : PySem.W.Frag) (mg : Str → Option Value) (base : Heap) (k : Nat) (f : Addr) (fd : FuncData) (ps : List Str) (S : DSp) : Prop := FnOk P w K mg base CX0 k f fd ps (spD K S)
def startD (N : List Str) (ds : List D) : DSt := ds.map some ++ List.replicate (N.length - ds.length) none

/-! ### handles below n alone -/
mutual
inductive Hd (n : Nat) : D → Prop
  | non : Hd n .non
  | bl (b : Bool) : Hd n (.bl b)
  | int (i : Int) : Hd n (.int i)
  | str (s : Str) : Hd n (.str s)
  | tup {ds : List D} (h : HdL n ds) : Hd n (.tup ds)
  | lst {ds : List D} (h : HdL n ds) : Hd n (.lst ds)
  | ins {C : Addr} {gs : List (Str × D)} (h : HdF n gs) : Hd n (.ins C gs)
  | scr (ns : List Int) : Hd n (.scr ns)
  | own {h : Nat} (l : h < n) : Hd n (.own h)
  | ref (a : Addr) : Hd n (.ref a)
inductive HdL (n : Nat) : List D → Prop
  | nil : HdL n []
  | cons {d : D} {ds : List D} (h : Hd n d) (t : HdL n ds) : HdL n (d :: ds)
inductive HdF (n : Nat) : List (Str × D) → Prop
  | nil : HdF n []
  | cons {k : Str} {d : D} {ds : List (Str × D)} (h : Hd n d) (t : HdF n ds) : HdF n ((k, d) :: ds)
end
inductive HdO (n : Nat) : DO → Prop
  | lst {ds : List D} (h : HdL n ds) : HdO n (.lst ds)
  | dic {gs : List (Str × D)} (h : HdF n gs) : HdO n (.dic gs)
  | ins {C : Addr} {gs : List (Str × D)} (h : HdF n gs) : HdO n (.ins C gs)
mutual
theorem Hd.le {n k : Nat} (l : n ≤ k) : ∀ {d : D}, Hd n d → Hd k d
  | _, .non => .non
  | _, .bl b => .bl b
  | _, .int i => .int i
  | _, .str s => .str s
  | _, .tup h => .tup (HdL.le l h)
  | _, .lst h => .lst (HdL.le l h)
  | _, .ins h => .ins (HdF.le l h)
  | _, .scr s => .scr s
  | _, .own h => .own (Nat.lt_of_lt_of_le h l)
  | _, .ref a => .ref a
theorem HdL.le {n k : Nat} (l : n ≤ k) : ∀ {d : List D}, HdL n d → HdL k d
  | _, .nil => .nil
  | _, .cons h t => .cons (Hd.le l h) (HdL.le l t)
theorem HdF.le {n k : Nat} (l : n ≤ k) : ∀ {d : List (Str × D)}, HdF n d → HdF k d
  | _, .nil => .nil
  | _, .cons h t => .cons (Hd.le l h) (HdF.le l t)
end
theorem HdL.of {n : Nat} : ∀ {ds : List D}, (∀ d ∈ ds, Hd n d) → HdL n ds
  | [], _ => .nil
  | d :: ds, h => .cons (h d List.mem_cons_self) (HdL.of fun x hx => h x (List.mem_cons_of_mem _ hx))
theorem HdL.mem {n : Nat} : ∀ {ds : List D}, HdL n ds → ∀ d ∈ ds, Hd n d
  | _, .nil, _, h => by cases h
  | _, .cons h t, d, hd => by
    rcases List.mem_cons.mp hd with e | e
    · rw [e]; exact h
    · exact HdL.mem t d e
theorem HdL.append {n : Nat} {a b : List D} (h : HdL n a) (g : HdL n b) : HdL n (a ++ b) := HdL.of fun d hd => (List.mem_append.mp hd).elim (h.mem d) (g.mem d)
theorem HdL.ints {n : Nat} (ns : List Int) : HdL n (ns.map D.int) := HdL.of fun d hd => by
  obtain ⟨i, _, rfl⟩ := List.mem_map.mp hd
  exact .int i
section
variable {K : PySem.W.Frag} {F F' H H' : Hp} {m m' : List Addr}
mutual
theorem Rep.hd : ∀ {v : V} {d : D}, Rep K F m v d → Hd m.length d
  | _, _, .non => .non
  | _, _, .bl b => .bl b
  | _, _, .int i => .int i
  | _, _, .str x => .str x
  | _, _, .tup h r => .tup (RepL.hd r)
  | _, _, .lst h r => .lst (RepL.hd r)
  | _, _, .ins h r => .ins (RepF.hd r)
  | _, _, .scr h => .scr _
  | _, _, .own e => .own (List.getElem?_eq_some_iff.mp e).1
  | _, _, .ref a => .ref a
theorem RepL.hd : ∀ {v : List V} {d : List D}, RepL K F m v d → HdL m.length d
  | _, _, .nil => .nil
  | _, _, .cons r t => .cons (Rep.hd r) (RepL.hd t)
theorem RepF.hd : ∀ {v : List (Str × V)} {d : List (Str × D)}, RepF K F m v d → HdF m.length d
  | _, _, .nil => .nil
  | _, _, .cons r t => .cons (Rep.hd r) (RepF.hd t)
end
theorem RepK.hd {v : List (Key × V)} {d : List (Str × D)} (h : RepK K F m v d) : HdF m.length d := by
  induction h with
  | nil => exact .nil
  | cons r _ ih => exact .cons r.hd ih
theorem RepO.hd {v : HO} {d : DO} (h : RepO K F m v d) : HdO m.length d := by
  cases h with
  | lst r => exact .lst r.hd
  | dic r => exact .dic r.hd
  | ins r => exact .ins r.hd
theorem Hol.hd {O : Own} (h : Hol K F H m O) {k : Nat} {o : DO} (e : O[k]? = some (some o)) : HdO O.length o := by
  obtain ⟨a, ho, _, _, _, r⟩ := h.own k o e
  rw [h.len]
  exact r.hd
/-- fewer handles are known, more is fixed -/
theorem get_take {α : Type} {l : List α} {n i : Nat} {a : α} (h : l[i]? = some a) (hi : i < n) : (l.take n)[i]? = some a := by
  rw [List.getElem?_take_of_lt hi]
  exact h
mutual
theorem Rep.cutM {n : Nat} (s : ∀ a o, F a = some o → F' a = some o) : ∀ {v : V} {d : D}, Hd n d → Rep K F m v d → Rep K F' (m.take n) v d
  | _, _, _, .non => .non
  | _, _, _, .bl b => .bl b
  | _, _, _, .int i => .int i
  | _, _, _, .str x => .str x
  | _, _, .tup hd, .tup h r => .tup (s _ _ h) (RepL.cutM s hd r)
  | _, _, .lst hd, .lst h r => .lst (s _ _ h) (RepL.cutM s hd r)
  | _, _, .ins hd, .ins h r => .ins (s _ _ h) (RepF.cutM s hd r)
  | _, _, _, .scr h => .scr (sqL_mono s h)
  | _, _, .own l, .own e => .own (get_take e l)
  | _, _, _, .ref a => .ref a
theorem RepL.cutM {n : Nat} (s : ∀ a o, F a = some o → F' a = some o) : ∀ {v : List V} {d : List D}, HdL n d → RepL K F m v d → RepL K F' (m.take n) v d
  | _, _, _, .nil => .nil
  | _, _, .cons h g, .cons r t => .cons (Rep.cutM s h r) (RepL.cutM s g t)
theorem RepF.cutM {n : Nat} (s : ∀ a o, F a = some o → F' a = some o) : ∀ {v : List (Str × V)} {d : List (Str × D)}, HdF n d → RepF K F m v d → RepF K F' (m.take n) v d
  | _, _, _, .nil => .nil
  | _, _, .cons h g, .cons r t => .cons (Rep.cutM s h r) (RepF.cutM s g t)
end
theorem RepK.cutM {n : Nat} (s : ∀ a o, F a = some o → F' a = some o) {v : List (Key × V)} {d : List (Str × D)} (h : RepK K F m v d) : HdF n d → RepK K F' (m.take n) v d := by
  induction h with
  | nil => intro _; exact .nil
  | cons r _ ih => intro g; cases g with | cons g1 g2 => exact .cons (r.cutM s g1) (ih g2)
theorem RepO.cutM {n : Nat} (s : ∀ a o, F a = some o → F' a = some o) {v : HO} {d : DO} (g : HdO n d) (h : RepO K F m v d) : RepO K F' (m.take n) v d := by
  cases h with
  | lst r => cases g with | lst g => exact .lst (r.cutM s g)
  | dic r => cases g with | dic g => exact .dic (r.cutM s g)
  | ins r => cases g with | ins g => exact .ins (r.cutM s g)
end
/-! ### a datum with what stands under the handles from n on put in -/
mutual
inductive Res (O : Own) (n : Nat) : D → D → Prop
  | same {d : D} (h : Hd n d) : Res O n d d
  | tup {ds es : List D} (h : ResL O n ds es) : Res O n (.tup ds) (.tup es)
  | lst {ds es : List D} (h : ResL O n ds es) : Res O n (.lst ds) (.lst es)
  | ins {C : Addr} {ds es : List (Str × D)} (h : ResF O n ds es) : Res O n (.ins C ds) (.ins C es)
  | own {k : Nat} {ds es : List D} (l : n ≤ k) (e : O[k]? = some (some (.lst ds))) (h : ResL O n ds es) : Res O n (.own k) (.lst es)
  | ownI {k : Nat} {C : Addr} {ds es : List (Str × D)} (l : n ≤ k) (e : O[k]? = some (some (.ins C ds))) (h : ResF O n ds es) : Res O n (.own k) (.ins C es)
inductive ResL (O : Own) (n : Nat) : List D → List D → Prop
  | nil : ResL O n [] []
  | cons {d e : D} {ds es : List D} (h : Res O n d e) (t : ResL O n ds es) : ResL O n (d :: ds) (e :: es)
inductive ResF (O : Own) (n : Nat) : List (Str × D) → List (Str × D) → Prop
  | nil : ResF O n [] []
  | cons {k : Str} {d e : D} {ds es : List (Str × D)} (h : Res O n d e) (t : ResF O n ds es) : ResF O n ((k, d) :: ds) ((k, e) :: es)
end
theorem ResL.same {O : Own} {n : Nat} : ∀ {ds : List D}, HdL n ds → ResL O n ds ds
  | _, .nil => .nil
  | _, .cons h t => .cons (.same h) (ResL.same t)
theorem ResF.same {O : Own} {n : Nat} : ∀ {ds : List (Str × D)}, HdF n ds → ResF O n ds ds
  | _, .nil => .nil
  | _, .cons h t => .cons (.same h) (ResF.same t)
section
variable {K : PySem.W.Frag} {F H F2 H2 : Hp} {m m2 : List Addr} {O2 : Own} {n : Nat}
/-- what is fixed when the handles from n on are given up -/
def fixed (F2 H2 : Hp) (m2 : List Addr) (n : Nat) : Hp := fun a => if a ∈ m2.drop n then H2 a else F2 a
theorem fixed_ex (h : Hol K F2 H2 m2 O2) : ∀ a o, F2 a = some o → fixed F2 H2 m2 n a = some o := fun a o e => by
  unfold fixed
  split
  · exact h.ex a o e
  · exact e
theorem fixed_in {a : Addr} (hi : a ∈ m2.drop n) : fixed F2 H2 m2 n a = H2 a := by unfold fixed; rw [if_pos hi]
theorem at_drop {k : Nat} {a : Addr} (e : m2[k]? = some a) (l : n ≤ k) : a ∈ m2.drop n := by
  refine List.mem_of_getElem? (i := k - n) ?_
  rw [List.getElem?_drop]
  have : n + (k - n) = k := by omega
  rw [this]
  exact e
mutual
theorem Res.rep (h : Hol K F2 H2 m2 O2) : ∀ {d d' : D} {v : V}, Res O2 n d d' → Rep K F2 m2 v d → Rep K (fixed F2 H2 m2 n) (m2.take n) v d'
  | _, _, _, .same hd, r => r.cutM (fixed_ex h) hd
  | _, _, _, .tup g, .tup q r => .tup (fixed_ex h _ _ q) (ResL.rep h g r)
  | _, _, _, .lst g, .lst q r => .lst (fixed_ex h _ _ q) (ResL.rep h g r)
  | _, _, _, .ins g, .ins q r => .ins (fixed_ex h _ _ q) (ResF.rep h g r)
  | _, _, _, .own l e g, .own q => by
    obtain ⟨_, ho, e1, e2⟩ := h.at_ e q
    cases e2 with
    | lst r => exact .lst ((fixed_in (at_drop q l)).trans e1) (ResL.rep h g r)
  | _, _, _, .ownI l e g, .own q => by
    obtain ⟨_, ho, e1, e2⟩ := h.at_ e q
    cases e2 with
    | ins r => exact .ins ((fixed_in (at_drop q l)).trans e1) (ResF.rep h g r)
theorem ResL.rep (h : Hol K F2 H2 m2 O2) : ∀ {d d' : List D} {v : List V}, ResL O2 n d d' → RepL K F2 m2 v d → RepL K (fixed F2 H2 m2 n) (m2.take n) v d'
  | _, _, _, .nil, .nil => .nil
  | _, _, _, .cons g t, .cons r s => .cons (Res.rep h g r) (ResL.rep h t s)
theorem ResF.rep (h : Hol K F2 H2 m2 O2) : ∀ {d d' : List (Str × D)} {v : List (Str × V)}, ResF O2 n d d' → RepF K F2 m2 v d → RepF K (fixed F2 H2 m2 n) (m2.take n) v d'
  | _, _, _, .nil, .nil => .nil
  | _, _, _, .cons g t, .cons r s => .cons (Res.rep h g r) (ResF.rep h t s)
end
theorem take_pre {α : Type} {l l' : List α} (p : l <+: l') {n : Nat} (h : l.length ≤ n) : l <+: l'.take n := by
  obtain ⟨r, rfl⟩ := p
  rw [List.take_append, List.take_of_length_le h]
  exact List.prefix_append _ _
/-- the handles from n on are given up -/
theorem give_up (s : Stp F H m F2 H2 m2) (h : Hol K F2 H2 m2 O2) (l : m.length ≤ n) (hd : ∀ (k : Nat) (o : DO), (O2.take n)[k]? = some (some o) → HdO n o) :
    Stp F H m (fixed F2 H2 m2 n) H2 (m2.take n) ∧ Hol K (fixed F2 H2 m2 n) H2 (m2.take n) (O2.take n) := by
  have apart : ∀ {a : Addr}, a ∈ m2.take n → a ∈ m2.drop n → False := fun h1 h2 => by
    have nd := h.nd
    rw [← List.take_append_drop n m2, List.nodup_append] at nd
    exact nd.2.2 _ h1 _ h2 rfl
  refine ⟨⟨fun a o e => fixed_ex h a o (s.ex a o e), take_pre s.pre l, s.fr, fun a e ne => s.nw a (List.mem_of_mem_take e) ne, fun a o e ne f => ?_⟩, ⟨fun a o e => ?_, h.nd.sublist (List.take_sublist _ _), fun a e => h.th a (List.mem_of_mem_take e), by rw [List.length_take, List.length_take, h.len], fun k o e => ?_⟩⟩
  · unfold fixed
    rw [if_neg]
    · exact s.nf a o e ne f
    · intro q
      have := s.nw a (List.mem_of_mem_drop q) ne
      rw [e] at this
      cases this
  · unfold fixed at e
    split at e
    · exact e
    · exact h.ex a o e
  · have hk : k < n := by
      have := (List.getElem?_eq_some_iff.mp e).1
      rw [List.length_take] at this
      omega
    have e' : O2[k]? = some (some o) := by rw [List.getElem?_take_of_lt hk] at e; exact e
    obtain ⟨a, ho, e1, e2, e3, e4⟩ := h.own k o e'
    refine ⟨a, ho, get_take e1 hk, ?_, e3, e4.cutM (fixed_ex h) (hd k o e)⟩
    unfold fixed
    rw [if_neg]
    · exact e2
    · exact fun q => apart (List.mem_of_getElem? (get_take e1 hk)) q
end
/-- what a def that changes nothing hands back: its own things are given up -/
def Pure (O : Own) (R : D → Own → Prop) : D → Own → Prop := fun d O' => ∃ d', O'.take O.length = O ∧ Res O' O.length d d' ∧ R d' O
theorem Pure.same {O : Own} {R : D → Own → Prop} {d : D} (h : Hd O.length d) (q : R d O) : Pure O R d O := ⟨d, List.take_length, .same h, q⟩
theorem Pure.up {O O' : Own} {R : D → Own → Prop} {d d' : D} (e : O'.take O.length = O) (h : Res O' O.length d d') (q : R d' O) : Pure O R d O' := ⟨d', e, h, q⟩
theorem Fin.pure {K : PySem.W.Frag} {F H : Hp} {m : List Addr} {O : Own} {R : D → Own → Prop} {Q : VK} (hh : Hol K F H m O) (f : Fin K F H m R Q) : Fin K F H m (Pure O R) Q := fun v H2 F2 m2 d O2 s h r q => by
  obtain ⟨d', e, g, q⟩ := q
  have l : m.length ≤ O.length := Nat.le_of_eq hh.len.symm
  obtain ⟨s', h'⟩ := give_up (n := O.length) s h l (fun k o z => hh.hd (by rw [← e]; exact z))
  rw [e] at h'
  exact f v H2 _ _ d' O s' h' (g.rep h r) q

section
variable {P : Program} {w : World} {K : PySem.W.Frag} {mg : Str → Option Value} {base : Heap}
theorem env_start {F : Hp} {m : List Addr} {vs : List V} {ds : List D} (N : List Str) (r : RepL K F m vs ds) : EnvR K F m (L2.start N vs) (startD N ds) := by
  have hl := r.length
  refine ⟨by unfold L2.start startD; rw [List.length_append, List.length_append, List.length_map, List.length_map, List.length_replicate, List.length_replicate, hl], fun i d h => ?_⟩
  unfold L2.start startD at *
  by_cases hi : i < ds.length
  · rw [List.getElem?_append_left (by simpa using hi), List.getElem?_map] at h
    cases e : ds[i]? with
    | none => rw [e] at h; cases h
    | some d' =>
      rw [e] at h
      cases h
      obtain ⟨v, e1, r1⟩ := r.get e
      exact ⟨v, by rw [List.getElem?_append_left (by rw [List.length_map]; omega), List.getElem?_map, e1]; rfl, r1⟩
  · rw [List.getElem?_append_right (by rw [List.length_map]; omega), List.getElem?_replicate] at h
    split at h <;> cases h
/-- THE RULE of a def, over data -/
theorem fnD_of {x qual : Str} {st : Stmt} {f : Addr} {fd : FuncData} {N ps : List Str} {k : Nat} {S : DSp} (F : Fun K x qual st f fd) (Sc : FnScope N ps (defScope st)) (len : ∀ ds O R, S ds O R → ds.length = ps.length)
    (hbody : ∀ (cdv : Value) (A : Around) (outer : List Env) (s : Shared) (H : Hp) (E : XK), Room k (A.deeper (PyProof.Rows.envOfC qual (defScope st) s.heap.objs.size f cdv)) →
      ∃ ts t, PDSs (cxOf CX0 P w K mg base N qual (defScope st) f cdv A outer s H E).nox (defBody st) ts t ∧ ∀ ds O R, S ds O R → t { nx := fun _ O' => R .non O', rt := R } (startD N ds) O) : FnD P w K mg base (k + 1) f fd ps S := by
  refine F.ok Sc (fun vs H Q E h => ?_) fun cdv A outer s H vs Q E hr hsp => ?_
  · obtain ⟨F', m, ds, O, R, r, _, q, _⟩ := h
    rw [r.length]
    exact len ds O R q
  · obtain ⟨F', m, ds, O, R, r, hh, q, fn⟩ := hsp
    obtain ⟨ts, t, d, g⟩ := hbody cdv A outer s H E hr
    refine ⟨ts, d.pe, d.sn.go _ H F' m _ O _ _ hh (env_start N r) (g ds O R q) ⟨fun σ' H' F2 m2 δ' O' s2 h2 _ q2 => fn .non H' F2 m2 .non O' s2 h2 .non q2, fn, fun _ _ _ _ _ _ _ _ _ z => z.elim, fun _ _ _ _ _ _ _ _ _ z => z.elim⟩⟩
/-- .. that changes nothing -/
theorem fnD_pure {x qual : Str} {st : Stmt} {f : Addr} {fd : FuncData} {N ps : List Str} {k : Nat} {S : DSp} (F : Fun K x qual st f fd) (Sc : FnScope N ps (defScope st)) (len : ∀ ds O R, S ds O R → ds.length = ps.length)
    (hbody : ∀ (cdv : Value) (A : Around) (outer : List Env) (s : Shared) (H : Hp) (E : XK), Room k (A.deeper (PyProof.Rows.envOfC qual (defScope st) s.heap.objs.size f cdv)) →
      ∃ ts t, PDSs (cxOf CX0 P w K mg base N qual (defScope st) f cdv A outer s H E).nox (defBody st) ts t ∧ ∀ ds O R, S ds O R → t { nx := fun _ O' => Pure O R .non O', rt := Pure O R } (startD N ds) O) : FnD P w K mg base (k + 1) f fd ps S := by
  refine F.ok Sc (fun vs H Q E h => ?_) fun cdv A outer s H vs Q E hr hsp => ?_
  · obtain ⟨F', m, ds, O, R, r, _, q, _⟩ := h
    rw [r.length]
    exact len ds O R q
  · obtain ⟨F', m, ds, O, R, r, hh, q, fn⟩ := hsp
    obtain ⟨ts, t, d, g⟩ := hbody cdv A outer s H E hr
    have fp := fn.pure hh
    refine ⟨ts, d.pe, d.sn.go _ H F' m _ O _ _ hh (env_start N r) (g ds O R q) ⟨fun σ' H' F2 m2 δ' O' s2 h2 _ q2 => fp .non H' F2 m2 .non O' s2 h2 .non q2, fp, fun _ _ _ _ _ _ _ _ _ z => z.elim, fun _ _ _ _ _ _ _ _ _ z => z.elim⟩⟩
theorem fnD_imp {f : Addr} {fd : FuncData} {ps : List Str} {k : Nat} {S S' : DSp} (F : FnD P w K mg base k f fd ps S) (h : ∀ ds O R, S' ds O R → S ds O R) : FnD P w K mg base k f fd ps S' :=
  F.imp fun vs H Q E ⟨F', m, ds, O, R, r, hh, q, fn⟩ => ⟨F', m, ds, O, R, r, hh, h ds O R q, fn⟩
end
theorem Room_u0 {k : Nat} {A : Around} (r : Room k A) : A.units < cLine := by have := r.un; omega
theorem Room_u1 {k : Nat} {A : Around} (r : Room k A) : A.units + 1 < cLine := by have := r.un; omega
theorem Room_u64 {k : Nat} {A : Around} (r : Room k A) : A.units + 64 < cLine := by have := r.un; omega
theorem Room_u65 {k : Nat} {A : Around} (r : Room k A) : A.units + 65 < cLine := by have := r.un; omega
/-- a def of the text as it stands behind the top -/
structure Def (K : PySem.W.Frag) (x qual : Str) (st : Stmt) (ps : List Str) where
  f : Addr
  fd : FuncData
  F : Fun K x qual st f fd
  b : Binds K fd ps []
/-! ### calls -/
def dCall (S : DSp) (da : DA) : DE := fun δ O R => da δ O fun ds O1 => S ds O1 R
def dMeth (C : Addr) (mn : Str) (S : DSp) (ta : DE) (da : DA) : DE := fun δ O R => ta δ O fun a O1 => oK (asI O1 a) fun p => p.1 = C ∧ p.2.lookup mn = none ∧ da δ O1 fun ds O2 => S (a :: ds) O2 R
def dMake (C : Addr) (S : DSp) (da : DA) : DE := fun δ O R => da δ O fun ds O1 => S (.own O1.length :: ds) (O1 ++ [some (.ins C [])]) fun d O2 => d = .non ∧ R (.own O1.length) O2
section
variable {X : Cx} {k : Nat} {f C : Addr} {fd : FuncData} {ps : List Str} {S : DSp} {x mn : Str} {p pos apos : Pos} {e o : Expr} {es : List Expr} {t : TA} {da : DA} {to : TE} {dO : DE}
theorem snd_call (ha : SndA X.K t da) : Snd X.K (tCall (spD X.K S) [] E0 t) (dCall S da) := ⟨fun σ H F m δ O R Q h en q fn => ha.go σ H F m δ O _ _ h en q fun vs H1 F1 m1 ds O1 s1 h1 r1 t1 =>
  ⟨F1, m1, ds, O1, R, by rw [List.append_nil]; exact r1, h1, t1, fn.mono s1⟩⟩
theorem pd_call (G : FnD X.prog X.w X.K X.mg X.base k f fd ps S) (hr : Room k X.A) (hg : Gl X x) (hm : X.mg x = some (.ref f)) (hk : PySem.W.keepIn X.K (.ref f) = true) (hb : Binds X.K fd ps [])
    (ha : PDA X (e :: es) t da) (hdb : (x == ("__debug__" : Str)) = false := by decide) (he : starEach (e :: es) X.env = (false, eval e X.env) :: starEach es X.env := by rfl) (hpl : (backTo pos (starEach es X.env)).any (·.1) = false := by rfl) :
    PD X (.Call (.Name x p) (e :: es) [] pos) (tCall (spD X.K S) [] E0 t) (dCall S da) := ⟨pe_call G hr hg hm hk hb .nil pass0 ha.pe hdb he hpl, snd_call ha.sn⟩
theorem pd_callK {P : Program} {w : World} {K : PySem.W.Frag} {mg : Str → Option Value} {base : Heap} (G : FnD P w K mg base k f fd ps S) (hr : Room k X.A) (hg : Gl X x) (hm : mg x = some (.ref f)) (hk : PySem.W.keepIn K (.ref f) = true) (hb : Binds K fd ps [])
    (ha : PDA X (e :: es) t da) (hX : X.prog = P ∧ X.w = w ∧ X.K = K ∧ X.mg = mg ∧ X.base = base := by exact ⟨rfl, rfl, rfl, rfl, rfl⟩) (hdb : (x == ("__debug__" : Str)) = false := by decide) (he : starEach (e :: es) X.env = (false, eval e X.env) :: starEach es X.env := by rfl) (hpl : (backTo pos (starEach es X.env)).any (·.1) = false := by rfl) :
    PD X (.Call (.Name x p) (e :: es) [] pos) (tCall (spD K S) [] E0 t) (dCall S da) := by
  obtain ⟨rfl, rfl, rfl, rfl, rfl⟩ := hX
  exact pd_call G hr hg hm hk hb ha hdb he hpl
theorem snd_meth (ho : Snd X.K to dO) (ha : SndA X.K t da) : Snd X.K (tMeth C mn (spD X.K S) [] E0 to t) (dMeth C mn S dO da) := ⟨fun σ H F m δ O R Q h en q fn => ho.go σ H F m δ O _ _ h en q fun v H1 F1 m1 a O1 s1 h1 r1 t1 => by
  obtain ⟨⟨C', gs⟩, e0, e1, e2, t2⟩ := t1.ex
  have e1' : C' = C := e1
  subst e1'
  obtain ⟨p, dx, fs, rfl, hp, rr⟩ := asI_rep h1 r1 e0
  refine ⟨p, dx, fs, rfl, hp, rr.look0 e2, ha.go σ H1 F1 m1 δ O1 _ _ h1 (en.mono s1) t2 fun vs H2 F2 m2 ds O2 s2 h2 r2 t3 => ?_⟩
  rw [List.append_nil]
  exact ⟨F2, m2, _, O2, R, .cons (r1.mono s2) r2, h2, t3, fn.mono (s1.trans s2)⟩⟩
theorem pd_meth {pl : Sem Bool} (ho : PD X o to dO) (c : Cls X.K C) (hm : Meth X.K C mn f) (G : FnD X.prog X.w X.K X.mg X.base k f fd ps S) (hr : Room k X.A) (hb : Binds X.K fd ps []) (ha : PDA X (e :: es) t da)
    (hst : starEach (e :: es) X.env = (false, eval e X.env) :: starEach es X.env := by rfl) (hpl : (backTo pos (starEach es X.env)).any (·.1) = false := by rfl)
    (ht : eval (.Call (.Attribute o mn apos) (e :: es) [] pos) X.env = (do
      let ov ← eval o X.env
      standAt apos.atName
      let (f, first) ← holding [ov] (getMethod ov mn pl)
      callWith pos f first (backTo pos (starEach (e :: es) X.env)) (backToKw pos (keywordEach [] X.env))) := by rfl) :
    PD X (.Call (.Attribute o mn apos) (e :: es) [] pos) (tMeth C mn (spD X.K S) [] E0 to t) (dMeth C mn S dO da) := ⟨pe_meth ho.pe c hm G hr hb .nil pass0 ha.pe hst hpl ht, snd_meth ho.sn ha.sn⟩
theorem pd_meth0 {pl : Sem Bool} (ho : PD X o to dO) (c : Cls X.K C) (hm : Meth X.K C mn f) (G : FnD X.prog X.w X.K X.mg X.base k f fd ps S) (hr : Room k X.A) (hb : Binds X.K fd ps [])
    (ht : eval (.Call (.Attribute o mn apos) [] [] pos) X.env = (do
      let ov ← eval o X.env
      standAt apos.atName
      let (f, first) ← holding [ov] (getMethod ov mn pl)
      callWith pos f first (backTo pos (starEach [] X.env)) (backToKw pos (keywordEach [] X.env))) := by rfl) :
    PD X (.Call (.Attribute o mn apos) [] [] pos) (tMeth C mn (spD X.K S) [] E0 to tNil) (dMeth C mn S dO dNil) := ⟨pe_meth0 ho.pe c hm G hr hb .nil pass0 ht, snd_meth ho.sn ⟨fun σ H F m δ O R Q h en t fn => fn [] H F m [] O .refl h .nil t⟩⟩
theorem snd_make (ha : SndA X.K t da) : Snd X.K (tMake C (spD X.K S) [] E0 t) (dMake C S da) := ⟨fun σ H F m δ O R Q h en q fn => ha.go σ H F m δ O _ _ h en q fun vs H1 F1 m1 ds O1 s1 h1 r1 t1 => by
  intro x dx nx ndx ne
  rw [List.append_nil]
  -- the instance's own dict is fixed, the instance may change
  obtain ⟨s2, h2⟩ := h1.frz (p := dx) (ho := .own x) ndx
  have nx' : L2.upd H1 dx (.own x) x = none := by rw [upd_ne (Ne.symm ne)]; exact nx
  obtain ⟨s3, h3⟩ := h2.new (p := x) (ho := .ins C dx []) (o := .ins C []) nx' (.ins .nil)
  have s13 := s2.trans s3
  refine ⟨_, _, _, _, fun d O2 => d = .non ∧ R (.own O1.length) O2, .cons (.own ?_) (r1.mono s13), h3, t1, fun v H4 F4 m4 d O4 s4 h4 r4 t4 => ?_⟩
  · rw [h1.len, List.getElem?_append_right (Nat.le_refl _), Nat.sub_self]
    rfl
  · obtain ⟨ed, t4⟩ := t4
    subst ed
    cases r4
    refine ⟨rfl, fn (.ref x) H4 F4 m4 _ O4 (s1.trans (s13.trans s4)) h4 (.own (pre_get s4.pre ?_)) t4⟩
    rw [h1.len, List.getElem?_append_right (Nat.le_refl _), Nat.sub_self]
    rfl⟩
theorem pd_make {fi : Addr} (M : Mk X.K C fi) (G : FnD X.prog X.w X.K X.mg X.base k fi fd ps S) (hr : Room (k + 1) X.A) (hg : Gl X x) (hm : X.mg x = some (.ref C)) (hb : Binds X.K fd ps [])
    (ha : PDA X (e :: es) t da) (hdb : (x == ("__debug__" : Str)) = false := by decide) (he : starEach (e :: es) X.env = (false, eval e X.env) :: starEach es X.env := by rfl) (hpl : (backTo pos (starEach es X.env)).any (·.1) = false := by rfl) :
    PD X (.Call (.Name x p) (e :: es) [] pos) (tMake C (spD X.K S) [] E0 t) (dMake C S da) := ⟨pe_make M G hr hg hm hb .nil pass0 ha.pe hdb he hpl, snd_make ha.sn⟩
end
/-! ### the things a caller holds, put in: at a name -/
/-- the last thing made is given up -/
def dGive (t : DE) : DE := fun δ O R => t δ O fun d O' => ∃ d', O'.take O.length = O ∧ Res O' O.length d d' ∧ R d' O
theorem snd_give {K : PySem.W.Frag} {te : TE} {t : DE} (h : Snd K te t) : Snd K te (dGive t) := ⟨fun σ H F m δ O R Q hh en q fn => h.go σ H F m δ O _ Q hh en q (fn.pure hh)⟩
theorem pd_give {X : Cx} {e : Expr} {te : TE} {t : DE} (h : PD X e te t) : PD X e te (dGive t) := ⟨h.pe, snd_give h.sn⟩
end DL

/-! DL, part g: methods of lists; zip; dicts with text keys; a name's list fixed. -/
namespace DL
open PySem L2

section
variable {K : PySem.W.Frag} {X : Cx} {o e : Expr} {to te : TE} {dO de : DE} {apos cpos pos : Pos}
/-! ### append, extend, clear, index -/
theorem tyV_lst {H : Hp} {p : Addr} {xs : List V} (h : H p = some (.lst xs)) : tyV K "list" (.ref p) H := .inl ⟨rfl, xs, SqL.of h⟩
def appD (O : Own) (a d : D) (R : D → Own → Prop) : Prop := match a with
  | .own h => match O[h]? with
    | some (some (.lst xs)) => xs.length < 1000000 ∧ R .non (O.set h (some (.lst (xs ++ [d]))))
    | _ => False
  | _ => False
def dApp (ta td : DE) : DE := fun δ O R => ta δ O fun a O1 => oK (asL O1 a) fun _ => td δ O1 fun d O2 => appD O2 a d R
theorem pd_append (ho : PD X o to dO) (he : PD X e te de) (hbase : attributeBase o "append" X.env (eval o X.env) = eval o X.env := by rfl)
    (hfew : ((backTo cpos (starEach [e] X.env)).all (fun x => !x.1) && (backToKw cpos (keywordEach [] X.env)).all (fun x => x.1.isSome) && decide ([e].length + ([] : List Keyword).length + (if ([] : List Keyword).isEmpty then 0 else 1) < 30)) = true := by rfl)
    (hline : (apos.endLine == cpos.line) = true := by rfl) (hs : starEach [e] X.env = (false, eval e X.env) :: starEach [] X.env := by rfl) (hplain : (backTo cpos (starEach [] X.env)).any (·.1) = false := by rfl) :
    PD X (.Call (.Attribute o "append" apos) [e] [] cpos) (tBM X.K "list" rAppend to (tCons te tNil)) (dApp dO de) :=
  ⟨pe_bm PySem.F.plainAttrs_list PySem.F.slot_list_append PySem.F.type_list_append mt_append ho.pe (pa_cons he.pe pa_nil hs) hbase hfew hline hs hplain, ⟨fun σ H F m δ O R Q h en t fn => ho.sn.go σ H F m δ O _ _ h en t fun v H1 F1 m1 a O1 s1 h1 r1 t1 => by
    obtain ⟨ds, e0, t1⟩ := t1.ex
    obtain ⟨p, us, rfl, hp, rr⟩ := asL_rep h1 r1 e0
    refine ⟨tyV_lst hp, he.sn.go σ H1 F1 m1 δ O1 _ _ h1 (en.mono s1) t1 fun w H2 F2 m2 d O2 s2 h2 r2 t2 => ?_⟩
    unfold appD at t2
    split at t2
    · rename_i k
      split at t2
      · rename_i xs q
        have r3 := r1.mono s2
        cases r3 with
        | own q1 =>
          obtain ⟨hf, ho', e2, e3⟩ := h2.at_ q q1
          cases e3 with
          | @lst ws _ rw' =>
            obtain ⟨s3, h3⟩ := h2.upd q q1 (.lst (rw'.append (.cons r2 .nil)))
            exact ⟨p, ws, w, rfl, rfl, e2, sz5' (by rw [rw'.length]; exact t2.1), fn _ _ _ _ _ _ (s1.trans (s2.trans s3)) h3 .non t2.2⟩
      · exact t2.elim
    · exact t2.elim⟩⟩
def extD (O : Own) (a b : D) (R : D → Own → Prop) : Prop := match a with
  | .own h => match O[h]? with
    | some (some (.lst xs)) => oK (asL O b) fun ys => xs.length + ys.length ≤ 1000000 ∧ R .non (O.set h (some (.lst (xs ++ ys))))
    | _ => False
  | _ => False
def dExt (ta td : DE) : DE := fun δ O R => ta δ O fun a O1 => oK (asL O1 a) fun _ => td δ O1 fun d O2 => extD O2 a d R
theorem pd_extend (ho : PD X o to dO) (he : PD X e te de) (hbase : attributeBase o "extend" X.env (eval o X.env) = eval o X.env := by rfl)
    (hfew : ((backTo cpos (starEach [e] X.env)).all (fun x => !x.1) && (backToKw cpos (keywordEach [] X.env)).all (fun x => x.1.isSome) && decide ([e].length + ([] : List Keyword).length + (if ([] : List Keyword).isEmpty then 0 else 1) < 30)) = true := by rfl)
    (hline : (apos.endLine == cpos.line) = true := by rfl) (hs : starEach [e] X.env = (false, eval e X.env) :: starEach [] X.env := by rfl) (hplain : (backTo cpos (starEach [] X.env)).any (·.1) = false := by rfl) :
    PD X (.Call (.Attribute o "extend" apos) [e] [] cpos) (tBM X.K "list" rExtend to (tCons te tNil)) (dExt dO de) :=
  ⟨pe_bm PySem.F.plainAttrs_list PySem.F.slot_list_extend PySem.F.type_list_extend mt_extend ho.pe (pa_cons he.pe pa_nil hs) hbase hfew hline hs hplain, ⟨fun σ H F m δ O R Q h en t fn => ho.sn.go σ H F m δ O _ _ h en t fun v H1 F1 m1 a O1 s1 h1 r1 t1 => by
    obtain ⟨ds, e0, t1⟩ := t1.ex
    obtain ⟨p, us, rfl, hp, rr⟩ := asL_rep h1 r1 e0
    refine ⟨tyV_lst hp, he.sn.go σ H1 F1 m1 δ O1 _ _ h1 (en.mono s1) t1 fun w H2 F2 m2 d O2 s2 h2 r2 t2 => ?_⟩
    unfold extD at t2
    split at t2
    · rename_i k
      split at t2
      · rename_i xs q
        obtain ⟨ys, ey, t2⟩ := t2.ex
        obtain ⟨b, zs, rfl, hb, rb⟩ := asL_rep h2 r2 ey
        have r3 := r1.mono s2
        cases r3 with
        | own q1 =>
          obtain ⟨hf, ho', e2, e3⟩ := h2.at_ q q1
          cases e3 with
          | @lst ws _ rw' =>
            obtain ⟨s3, h3⟩ := h2.upd q q1 (.lst (rw'.append rb))
            exact ⟨p, b, ws, zs, rfl, rfl, e2, hb, sz5 (by rw [rw'.length, rb.length]; exact t2.1), fn _ _ _ _ _ _ (s1.trans (s2.trans s3)) h3 .non t2.2⟩
      · exact t2.elim
    · exact t2.elim⟩⟩
def dClr (ta : DE) : DE := fun δ O R => ta δ O fun a O1 => match a with
  | .own h => match O1[h]? with
    | some (some (.lst _)) => R .non (O1.set h (some (.lst [])))
    | _ => False
  | _ => False
theorem pd_clear (ho : PD X o to dO) (hbase : attributeBase o "clear" X.env (eval o X.env) = eval o X.env := by rfl) (hline : (apos.endLine == cpos.line) = true := by rfl) :
    PD X (.Call (.Attribute o "clear" apos) [] [] cpos) (tBM0 X.K "list" rClear to) (dClr dO) :=
  ⟨pe_bm0 PySem.F.plainAttrs_list PySem.F.slot_list_clear PySem.F.type_list_clear mt_clear ho.pe hbase hline, ⟨fun σ H F m δ O R Q h en t fn => ho.sn.go σ H F m δ O _ _ h en t fun v H1 F1 m1 a O1 s1 h1 r1 t1 => by
    split at t1
    · rename_i k
      split at t1
      · rename_i xs q
        cases r1 with
        | @own _ p q1 =>
          obtain ⟨hf, ho', e2, e3⟩ := h1.at_ q q1
          cases e3 with
          | @lst ws _ rw' =>
            obtain ⟨s3, h3⟩ := h1.upd q q1 (.lst .nil)
            exact ⟨tyV_lst e2, p, ws, rfl, rfl, e2, fn _ _ _ _ _ _ (s1.trans s3) h3 .non t1⟩
      · exact t1.elim
    · exact t1.elim⟩⟩
def dIdx (ta td : DE) : DE := fun δ O R => ta δ O fun a O1 => oK (asL O1 a) fun _ => td δ O1 fun d O2 => oK (asL O2 a) fun xs => oK (intsD xs) fun ns => match d with
  | .int y => ∃ j : Nat, ns[j]? = some y ∧ (∀ i : Nat, i < j → ns[i]? ≠ some y) ∧ R (.int (j : Int)) O2
  | _ => False
theorem flat_ints : ∀ ns : List Int, (ns.map V.int).all flatV = true
  | [] => rfl
  | _ :: r => flat_ints r
theorem pd_index (ho : PD X o to dO) (he : PD X e te de) (hbase : attributeBase o "index" X.env (eval o X.env) = eval o X.env := by rfl)
    (hfew : ((backTo cpos (starEach [e] X.env)).all (fun x => !x.1) && (backToKw cpos (keywordEach [] X.env)).all (fun x => x.1.isSome) && decide ([e].length + ([] : List Keyword).length + (if ([] : List Keyword).isEmpty then 0 else 1) < 30)) = true := by rfl)
    (hline : (apos.endLine == cpos.line) = true := by rfl) (hs : starEach [e] X.env = (false, eval e X.env) :: starEach [] X.env := by rfl) (hplain : (backTo cpos (starEach [] X.env)).any (·.1) = false := by rfl) :
    PD X (.Call (.Attribute o "index" apos) [e] [] cpos) (tBM X.K "list" (rIndex X.K) to (tCons te tNil)) (dIdx dO de) :=
  ⟨pe_bm PySem.F.plainAttrs_list PySem.F.slot_list_index PySem.F.type_list_index mt_index ho.pe (pa_cons he.pe pa_nil hs) hbase hfew hline hs hplain, ⟨fun σ H F m δ O R Q h en t fn => ho.sn.go σ H F m δ O _ _ h en t fun v H1 F1 m1 a O1 s1 h1 r1 t1 => by
    obtain ⟨ds, e0, t1⟩ := t1.ex
    obtain ⟨p, us, rfl, hp, rr⟩ := asL_rep h1 r1 e0
    refine ⟨tyV_lst hp, he.sn.go σ H1 F1 m1 δ O1 _ _ h1 (en.mono s1) t1 fun w H2 F2 m2 d O2 s2 h2 r2 t2 => ?_⟩
    obtain ⟨xs, e1, t2⟩ := t2.ex
    obtain ⟨ns, e2, t2⟩ := t2.ex
    obtain ⟨p', ws, ep, hp', rr'⟩ := asL_rep h2 (r1.mono s2) e1
    cases ep
    rw [intsD_eq e2] at rr'
    rw [rr'.ints] at hp'
    cases r2 with
    | int y =>
      obtain ⟨j, j1, j2, t2⟩ := t2
      refine ⟨p, ns.map V.int, .int y, j, .int y, rfl, rfl, SqL.of hp', rfl, flat_ints ns, by rw [List.getElem?_map, j1]; rfl, by show (y == y) = true; exact beq_self_eq_true y, fun i z hi hz => ?_, (fn.mono (s1.trans s2)).here h2 (.int _) t2⟩
      rw [List.getElem?_map] at hz
      cases q : ns[i]? with
      | none => rw [q] at hz; cases hz
      | some n =>
        rw [q] at hz
        cases hz
        show (n == y) = false
        refine beq_false_of_ne fun z => j2 i hi ?_
        rw [q, z]
    | _ => exact t2.elim⟩⟩
/-! ### zip -/
def zipD : List D → List D → List D
  | a :: as, b :: bs => .tup [a, b] :: zipD as bs
  | _, _ => []
theorem zipD_get : ∀ {as bs : List D} {i : Nat} {d : D}, (zipD as bs)[i]? = some d → ∃ a b, as[i]? = some a ∧ bs[i]? = some b ∧ d = .tup [a, b]
  | [], _, i, d, h => by simp [zipD] at h
  | _ :: _, [], i, d, h => by simp [zipD] at h
  | a :: as, b :: bs, 0, d, h => by simp [zipD] at h; exact ⟨a, b, rfl, rfl, h.symm⟩
  | a :: as, b :: bs, i + 1, d, h => by
    obtain ⟨a', b', e1, e2, e3⟩ := zipD_get (i := i) (by simpa [zipD] using h)
    exact ⟨a', b', by simpa using e1, by simpa using e2, e3⟩
theorem zipD_length : ∀ (as bs : List D), (zipD as bs).length = min as.length bs.length
  | [], _ => by simp [zipD]
  | _ :: _, [] => by simp [zipD]
  | a :: as, b :: bs => by simp [zipD, zipD_length as bs]
def diZip (ta tb : DE) : DI := fun δ O R => ta δ O fun a O1 => tb δ O1 fun b O2 => oK (asL O2 a) fun xs => oK (asL O2 b) fun ys => R (zipD xs ys) (fun O' => asL O' a = some xs ∧ asL O' b = some ys) O2
theorem pdi_zip {e2 : Expr} {te2 : TE} {de2 : DE} {p pos tpos : Pos} {elts : List Expr} {kk : Nat} (hg : Gl X "zip") (hm : X.mg "zip" = none) (h : PD X e te de) (h2 : PD X e2 te2 de2)
    (hs : starEach [e, e2] X.env = (false, eval e X.env) :: starEach [e2] X.env := by rfl) (hs2 : starEach [e2] X.env = (false, eval e2 X.env) :: starEach [] X.env := by rfl) (hpl : (backTo pos (starEach [e2] X.env)).any (·.1) = false := by rfl) :
    PDI X (.Tuple elts kk tpos) (.Call (.Name "zip" p) [e, e2] [] pos) (L2.iZip X.K (tCons te (tCons te2 tNil))) (diZip de de2) := ⟨pi_zip hg hm (pa_cons h.pe (pa_cons h2.pe pa_nil hs2) hs) hs hpl, fun σ H F m δ O R Q hh en q f => h.sn.go σ H F m δ O _ _ hh en q fun v H1 F1 m1 a O1 s1 h1 r1 t1 =>
  h2.sn.go σ H1 F1 m1 δ O1 _ _ h1 (en.mono s1) t1 fun w H2 F2 m2 b O2 s2 h2' r2 t2 => by
    obtain ⟨xs, e1, t2⟩ := t2.ex
    obtain ⟨ys, e2', t2⟩ := t2.ex
    have r1' := r1.mono s2
    obtain ⟨p1, us, rfl, hp1, rr1⟩ := asL_rep h2' r1' e1
    obtain ⟨p2, ws, rfl, hp2, rr2⟩ := asL_rep h2' r2 e2'
    have now1 : ∀ {H' F' : Hp} {m' : List Addr} {O' : Own}, Sub F2 m2 F' m' → Hol X.K F' H' m' O' → asL O' a = some xs → ∃ ys, H' p1 = some (.lst ys) ∧ RepL X.K F' m' ys xs := fun s' h' e' => by
      obtain ⟨p', ys, ep, hp', rr'⟩ := asL_rep h' (Rep.mono0 s' r1') e'
      cases ep
      exact ⟨ys, hp', rr'⟩
    have now2 : ∀ {H' F' : Hp} {m' : List Addr} {O' : Own}, Sub F2 m2 F' m' → Hol X.K F' H' m' O' → asL O' b = some ys → ∃ zs, H' p2 = some (.lst zs) ∧ RepL X.K F' m' zs ys := fun s' h' e' => by
      obtain ⟨p', ys, ep, hp', rr'⟩ := asL_rep h' (Rep.mono0 s' r2) e'
      cases ep
      exact ⟨ys, hp', rr'⟩
    refine ⟨p1, p2, us, ws, rfl, SqL.of hp1, SqL.of hp2, f (Itz X.K p1 p2) H2 F2 m2 _ _ O2 (s1.trans s2) h2' ⟨fun i H' F' m' O' s' h' e' hi => ?_, fun i H' F' m' O' s' h' e' hi => ?_, fun i H' F' m' O' x H3 d s' h' e' hd y => ?_⟩ t2⟩
    · rw [zipD_length] at hi
      obtain ⟨us', hp1', rr1'⟩ := now1 s' h' e'.1
      obtain ⟨ws', hp2', rr2'⟩ := now2 s' h' e'.2
      have l1 := rr1'.length
      have l2 := rr2'.length
      exact ⟨us', ws', us'[i], ws'[i], SqL.of hp1', SqL.of hp2', List.getElem?_eq_getElem (by omega), List.getElem?_eq_getElem (by omega)⟩
    · rw [zipD_length] at hi
      obtain ⟨us', hp1', rr1'⟩ := now1 s' h' e'.1
      obtain ⟨ws', hp2', rr2'⟩ := now2 s' h' e'.2
      have l1 := rr1'.length
      have l2 := rr2'.length
      exact ⟨us', ws', SqL.of hp1', SqL.of hp2', by omega⟩
    · obtain ⟨us', hp1', rr1'⟩ := now1 s' h' e'.1
      obtain ⟨ws', hp2', rr2'⟩ := now2 s' h' e'.2
      obtain ⟨T, x1, x2, e3, n, e4, y1, y2⟩ := y
      subst e3 e4
      obtain ⟨d1, d2, g1, g2, g3⟩ := zipD_get hd
      subst g3
      obtain ⟨v1, k1, q1⟩ := rr1'.get g1
      obtain ⟨v2, k2, q2⟩ := rr2'.get g2
      have z1 := y1 us' (SqL.of hp1')
      have z2 := y2 ws' (SqL.of hp2')
      rw [k1] at z1
      rw [k2] at z2
      cases z1
      cases z2
      obtain ⟨s3, h3⟩ := h'.frz (ho := .tup [x1, x2]) n
      exact ⟨_, s3, h3, .tup upd_same (.cons (q1.mono s3) (.cons (q2.mono s3) .nil))⟩⟩
/-! ### dicts with text keys -/
theorem RepK.look {F : Hp} {m : List Addr} {f : Str} {d : D} {vs : List (Key × V)} {gs : List (Str × D)} (h : RepK K F m vs gs) (e : gs.lookup f = some d) : ∃ v, valV vs (Sum.inr f : Key) = some v ∧ Rep K F m v d := by
  induction h with
  | nil => simp at e
  | @cons n v d0 vs gs r t ih =>
    by_cases q : f = n
    · subst q
      rw [List.lookup_cons_self] at e
      cases e
      exact ⟨v, valV_pos rfl, r⟩
    · have b : (f == n) = false := beq_false_of_ne q
      rw [List.lookup_cons, b] at e
      obtain ⟨u, e1, r1⟩ := ih e
      exact ⟨u, by rw [valV_neg (fun z : (Sum.inr n : Key) = Sum.inr f => q (Sum.inr.inj z).symm)]; exact e1, r1⟩
def putK' (f : Str) (d : D) (gs : List (Str × D)) : List (Str × D) := if (gs.any fun g => decide (g.1 = f)) = true then gs.map (fun g => if g.1 = f then (g.1, d) else g) else gs ++ [(f, d)]
theorem RepK.any {F : Hp} {m : List Addr} {f : Str} {vs : List (Key × V)} {gs : List (Str × D)} (h : RepK K F m vs gs) : (vs.any fun kv => decide (kv.1 = (Sum.inr f : Key))) = gs.any fun g => decide (g.1 = f) := by
  induction h with
  | nil => rfl
  | @cons n v d0 vs gs r t ih =>
    rw [List.any_cons, List.any_cons, ih]
    congr 1
    by_cases q : n = f
    · subst q; simp
    · rw [decide_eq_false q, decide_eq_false (fun z : (Sum.inr n : Key) = Sum.inr f => q (Sum.inr.inj z))]
theorem RepK.append {F : Hp} {m : List Addr} {vs ws : List (Key × V)} {gs hs : List (Str × D)} (h : RepK K F m vs gs) (g : RepK K F m ws hs) : RepK K F m (vs ++ ws) (gs ++ hs) := by
  induction h with
  | nil => exact g
  | cons r t ih => exact .cons r ih
theorem RepK.map {F : Hp} {m : List Addr} {f : Str} {v : V} {d : D} (r : Rep K F m v d) {vs : List (Key × V)} {gs : List (Str × D)} (h : RepK K F m vs gs) :
    RepK K F m (vs.map fun kv => if kv.1 = (Sum.inr f : Key) then (kv.1, v) else kv) (gs.map fun g => if g.1 = f then (g.1, d) else g) := by
  induction h with
  | nil => exact .nil
  | @cons n v0 d0 vs gs r0 t ih =>
    rw [List.map_cons, List.map_cons]
    by_cases q : n = f
    · subst q
      rw [if_pos rfl, if_pos rfl]
      exact .cons r ih
    · rw [if_neg (fun z : (Sum.inr n : Key) = Sum.inr f => q (Sum.inr.inj z)), if_neg q]
      exact .cons r0 ih
theorem RepK.put {F : Hp} {m : List Addr} {f : Str} {v : V} {d : D} (r : Rep K F m v d) {vs : List (Key × V)} {gs : List (Str × D)} (h : RepK K F m vs gs) : RepK K F m (putK vs (Sum.inr f : Key) v) (putK' f d gs) := by
  unfold putK putK'
  rw [h.any]
  split
  · exact h.map r
  · exact h.append (.cons r .nil)
theorem RepK.length {F : Hp} {m : List Addr} {vs : List (Key × V)} {gs : List (Str × D)} (h : RepK K F m vs gs) : vs.length = gs.length := by
  induction h with
  | nil => rfl
  | cons r t ih => rw [List.length_cons, List.length_cons, ih]
def dDGet (ta tk : DE) : DE := fun δ O R => ta δ O fun a O1 => tk δ O1 fun k O2 => match a, k with
  | .own h, .str s => match O2[h]? with
    | some (some (.dic gs)) => oK (gs.lookup s) fun d => R d O2
    | _ => False
  | _, _ => False
theorem pd_dget {i : Expr} {ti : TE} {di : DE} (hu : X.A.units + 1 < cLine) (ho : PD X o to dO) (hi : PD X i ti di) (hs : NoSl i) : PD X (.Subscript o i pos) (tDGet to ti) (dDGet dO di) := ⟨pe_dget hu ho.pe hi.pe hs, ⟨fun σ H F m δ O R Q h en t fn => ho.sn.go σ H F m δ O _ _ h en t fun v H1 F1 m1 a O1 s1 h1 r1 t1 =>
  hi.sn.go σ H1 F1 m1 δ O1 _ _ h1 (en.mono s1) t1 fun y H2 F2 m2 k O2 s2 h2 r2 t2 => by
    have r3 := r1.mono s2
    split at t2
    · rename_i h s
      split at t2
      · rename_i gs q
        obtain ⟨d, e1, t2⟩ := t2.ex
        cases r2
        cases r3 with
        | @own _ p q1 =>
          obtain ⟨hf, ho', e2, e3⟩ := h2.at_ q q1
          cases e3 with
          | @dic kvs _ rk =>
            obtain ⟨u, e4, r4⟩ := rk.look e1
            exact ⟨p, u, rfl, .inl ⟨kvs, Sum.inr s, .inl e2, rfl, e4.symm⟩, (fn.mono (s1.trans s2)).here h2 r4 t2⟩
      · exact t2.elim
    · exact t2.elim⟩⟩
def dsDPut (ta tk tv : DE) : DS := fun E δ O => tv δ O fun d O1 => ta δ O1 fun a O2 => tk δ O2 fun k O3 => match a, k with
  | .own h, .str s => match O3[h]? with
    | some (some (.dic gs)) => gs.length < 1000 ∧ E.nx δ (O3.set h (some (.dic (putK' s d gs))))
    | _ => False
  | _, _ => False
theorem pds_dput {i value : Expr} {ti tv : TE} {di dv : DE} {pos' : Pos} (hu : X.A.units + 1 < cLine) (ho : PD X o to dO) (hi : PD X i ti di) (hv : PD X value tv dv) (hs : swapsWith value (some (.Subscript o i pos')) pos.line X.env = pure false := by rfl) :
    PDS X (.Assign [.Subscript o i pos'] value pos) (sDPut to ti tv) (dsDPut dO di dv) := ⟨ps_dput hu ho.pe hi.pe hv.pe hs, ⟨fun σ H F m δ O E D h en t fn => hv.sn.go σ H F m δ O _ _ h en t fun w H1 F1 m1 d O1 s1 h1 r1 t1 =>
  ho.sn.go σ H1 F1 m1 δ O1 _ _ h1 (en.mono s1) t1 fun v H2 F2 m2 a O2 s2 h2 r2 t2 => hi.sn.go σ H2 F2 m2 δ O2 _ _ h2 (en.mono (s1.trans s2)) t2 fun y H3 F3 m3 k O3 s3 h3 r3 t3 => by
    have r4 := r2.mono s3
    split at t3
    · rename_i h s
      split at t3
      · rename_i gs q
        cases r3
        cases r4 with
        | @own _ p q1 =>
          obtain ⟨hf, ho', e2, e3⟩ := h3.at_ q q1
          cases e3 with
          | @dic kvs _ rk =>
            obtain ⟨s4, h4⟩ := h3.upd q q1 (.dic (rk.put (f := s) (r1.mono (s2.trans s3))))
            have s14 := s1.trans (s2.trans (s3.trans s4))
            exact ⟨p, _, rfl, DPut.k (k := Sum.inr s) e2 (sz5' (by rw [rk.length]; have := t3.1; omega)), fn.nx _ _ _ _ _ _ s14 h4 (en.mono s14) t3.2⟩
      · exact t3.elim
    · exact t3.elim⟩⟩
/-- a written dict -/
structure PDPs (X : Cx) (pos : Pos) (keys : List (Option Expr)) (values : List Expr) (trs : List (TE × TE)) (ks : List Str) (das : DA) : Prop where
  pe : PPs X pos keys values trs
  sn : ∀ (σ : L2.St) (H F : Hp) (m : List Addr) (δ : DSt) (O : Own) (R : List D → Own → Prop) (Q : List (V × V) → Hp → Prop), Hol X.K F H m O → EnvR X.K F m σ δ → das δ O R →
    (∀ vs H' F' m' ds O', vs.length = ks.length → Stp F H m F' H' m' → Hol X.K F' H' m' O' → RepL X.K F' m' vs ds → R ds O' → Q ((ks.map V.str).zip vs) H') → tPairs trs σ H Q
theorem pdps_nil : PDPs X pos [] [] [] [] dNil := ⟨pps_nil, fun σ H F m δ O R Q h en t fn => fn [] H F m [] O rfl .refl h .nil t⟩
theorem pdps_cons {k : Str} {j : Nat} {p : Pos} {v : Expr} {ks : List (Option Expr)} {vs : List Expr} {tv : TE} {dv : DE} {trs : List (TE × TE)} {ss : List Str} {das : DA} (hv : PD X v tv dv) (hr : PDPs X pos ks vs trs ss das) :
    PDPs X pos (some (.Constant (.str k) j p) :: ks) (v :: vs) ((tC (.str k), tv) :: trs) (k :: ss) (dCons dv das) := ⟨pps_cons pe_str hv.pe hr.pe, fun σ H F m δ O R Q h en t fn => hv.sn.go σ H F m δ O _ _ h en t fun x H1 F1 m1 d O1 s1 h1 r1 t1 =>
  hr.sn σ H1 F1 m1 δ O1 _ _ h1 (en.mono s1) t1 fun us H2 F2 m2 ds O2 hl s2 h2 r2 t2 => fn (x :: us) H2 F2 m2 (d :: ds) O2 (by rw [List.length_cons, List.length_cons, hl]) (s1.trans s2) h2 (.cons (r1.mono s2) r2) t2⟩
def dDisp (ks : List Str) (das : DA) : DE := fun δ O R => das δ O fun ds O1 => R (.own O1.length) (O1 ++ [some (.dic (ks.zip ds))])
theorem merge_nodup : ∀ (more kvs : List (Key × V)), ((kvs ++ more).map (·.1)).Nodup → mergeK kvs more = kvs ++ more
  | [], kvs, _ => (List.append_nil kvs).symm
  | kv :: more, kvs, h => by
    have hn : valV kvs kv.1 = none := by
      cases e : valV kvs kv.1 with
      | none => rfl
      | some u =>
        exfalso
        unfold valV at e
        cases q : kvs.find? fun p => decide (p.1 = kv.1) with
        | none => rw [q] at e; cases e
        | some p =>
          have h1 := List.mem_of_find?_eq_some q
          have h2 : p.1 = kv.1 := by simpa using List.find?_some q
          rw [List.map_append, List.nodup_append] at h
          exact h.2.2 p.1 (List.mem_map_of_mem h1) kv.1 (by simp) h2
    show mergeK (putK kvs kv.1 kv.2) more = _
    rw [putK_new _ hn]
    have e : kvs ++ kv :: more = (kvs ++ [(kv.1, kv.2)]) ++ more := by simp
    rw [e] at h ⊢
    exact merge_nodup more _ h
theorem zip_map_str : ∀ (ks : List Str) (vs : List V), (ks.map V.str).zip vs = (((ks.map fun k => (Sum.inr k : Key)).zip vs).map fun kv => (kV kv.1, kv.2))
  | [], _ => rfl
  | _ :: _, [] => rfl
  | k :: ks, v :: vs => by
    exact congrArg (List.cons (V.str k, v)) (zip_map_str ks vs)
theorem repK_zip {F : Hp} {m : List Addr} : ∀ {ks : List Str} {vs : List V} {ds : List D}, RepL K F m vs ds → RepK K F m ((ks.map fun k => (Sum.inr k : Key)).zip vs) (ks.zip ds)
  | [], _, _, _ => .nil
  | _ :: _, _, _, .nil => .nil
  | _ :: _, _, _, .cons r t => .cons r (repK_zip t)
theorem pd_disp {keys : List (Option Expr)} {values : List Expr} {trs : List (TE × TE)} {ks : List Str} {das : DA} (h : PDPs X pos keys values trs ks das) (hall : keys.all (·.isSome) = true) (hl : keys.length = values.length) (h0 : keys ≠ []) (h15 : keys.length ≤ 15)
    (hk : ks.length ≤ 15) (nd : ks.Nodup) : PD X (.Dict keys values pos) (tDisp trs) (dDisp ks das) := ⟨pe_disp h.pe hall hl h0 h15, ⟨fun σ H F m δ O R Q hh en t fn => by
  intro L hL
  have fL : F L = none := by
    cases z : F L with
    | none => rfl
    | some u => have := hh.ex L u z; rw [hL] at this; cases this
  have mL : L ∉ m := fun z => by obtain ⟨u, e⟩ := hh.th L z; rw [hL] at e; cases e
  have h1 : Hol X.K F (L2.upd H L (.dK [])) m O := by
    refine ⟨fun p u z => ?_, hh.nd, fun p hp => ?_, hh.len, fun k u e => ?_⟩
    · rw [upd_ne (ne_of_none z fL)]; exact hh.ex p u z
    · obtain ⟨u, hu⟩ := hh.th p hp
      exact ⟨u, by rw [upd_ne (ne_of_none hu hL)]; exact hu⟩
    · obtain ⟨p, ho', e1, e2, e3, e4⟩ := hh.own k u e
      exact ⟨p, ho', e1, e2, by rw [upd_ne (ne_of_none e3 hL)]; exact e3, e4⟩
  refine h.sn σ _ F m δ O _ _ h1 en t fun vs H2 F2 m2 ds O2 hlen s2 h2 r2 t2 => ?_
  have f2 : F2 L = none := s2.nf L _ upd_same mL fL
  have n2 : L ∉ m2 := fun z => by
    have q := s2.nw L z mL
    rw [upd_same] at q
    cases q
  have l2 : H2 L = some (.dK []) := s2.fr L _ upd_same mL
  refine ⟨l2, (ks.map fun k => (Sum.inr k : Key)).zip vs, zip_map_str ks vs, by rw [List.length_zip, List.length_map]; omega, ?_⟩
  have nd' : (([] ++ (ks.map fun k => (Sum.inr k : Key)).zip vs : List (Key × V)).map (·.1)).Nodup := by
    rw [List.nil_append]
    have e : ((((ks.map fun k => (Sum.inr k : Key)).zip vs : List (Key × V))).map (·.1)) = ks.map fun k => (Sum.inr k : Key) := by
      exact List.map_fst_zip (by rw [List.length_map, hlen]; exact Nat.le_refl _)
    rw [e]
    exact List.Pairwise.map _ (fun a b h z => h (Sum.inr.inj z)) nd
  rw [merge_nodup _ _ nd', List.nil_append]
  -- the state without L, then L as a new thing
  have hd : Hol X.K F2 (fun a => if a = L then none else H2 a) m2 O2 := by
    refine ⟨fun p u z => ?_, h2.nd, fun p hp => ?_, h2.len, fun k u e => ?_⟩
    · simp only [if_neg (ne_of_none z f2)]; exact h2.ex p u z
    · obtain ⟨u, hu⟩ := h2.th p hp
      exact ⟨u, by simp only [if_neg (fun z : p = L => n2 (by rw [← z]; exact hp))]; exact hu⟩
    · obtain ⟨p, ho', e1, e2, e3, e4⟩ := h2.own k u e
      exact ⟨p, ho', e1, e2, by simp only [if_neg (fun z : p = L => n2 (by rw [← z]; exact List.mem_of_getElem? e1))]; exact e3, e4⟩
  have sd : Stp F H m F2 (fun a => if a = L then none else H2 a) m2 := by
    refine ⟨s2.ex, s2.pre, fun a o z nm => ?_, fun a z nm => ?_, fun a o z nm fz => ?_⟩
    · have ne : a ≠ L := fun e => by rw [e, hL] at z; cases z
      simp only [if_neg ne]
      exact s2.fr a o (by rw [upd_ne ne]; exact z) nm
    · have q := s2.nw a z nm
      by_cases e : a = L
      · rw [e]; exact hL
      · rw [upd_ne e] at q; exact q
    · have ne : a ≠ L := fun e => by rw [e, hL] at z; cases z
      exact s2.nf a o (by rw [upd_ne ne]; exact z) nm fz
  obtain ⟨s3, h3⟩ := hd.new (p := L) (ho := .dK ((ks.map fun k => (Sum.inr k : Key)).zip vs)) (o := .dic (ks.zip ds)) (by simp) (.dic (repK_zip r2))
  have eq : L2.upd (fun a => if a = L then none else H2 a) L (.dK ((ks.map fun k => (Sum.inr k : Key)).zip vs)) = L2.upd H2 L (.dK ((ks.map fun k => (Sum.inr k : Key)).zip vs)) := by
    funext b
    by_cases z : b = L
    · rw [z, upd_same, upd_same]
    · rw [upd_ne z, upd_ne z]; simp only [if_neg z]
  rw [eq] at s3 h3
  refine fn (.ref L) _ F2 _ _ _ (sd.trans s3) h3 (.own ?_) t2
  rw [h2.len, List.getElem?_append_right (Nat.le_refl _), Nat.sub_self]
  rfl⟩⟩
/-! ### a name's list, that no one changes from here on -/
def dFix (i : Nat) (t : DS) : DS := fun E δ O => match δ[i]? with
  | some (some (.own h)) => match O[h]? with
    | some (some (.lst ds)) => t E (δ.set i (some (.lst ds))) (O.set h none)
    | _ => False
  | _ => False
theorem pdss_fix {rest : List Stmt} {u : TS} {du : DS} (i : Nat) (hr : PDSs X rest u du) : PDSs X rest u (dFix i du) := ⟨hr.pe, ⟨fun σ H F m δ O E D h en t fn => by
  unfold dFix at t
  split at t
  · rename_i k q
    split at t
    · rename_i ds q'
      obtain ⟨v, e1, r1⟩ := en.at_ i _ q
      cases r1 with
      | @own _ p q1 =>
        obtain ⟨hf, ho', e2, e3⟩ := h.at_ q' q1
        cases e3 with
        | @lst ws _ rw' =>
          have hx : ∀ a o, F a = some o → L2.upd F p (.lst ws) a = some o := fun a o z => by rw [upd_ne (ne_of_none z hf)]; exact z
          have sb : Sub F m (L2.upd F p (.lst ws)) m := ⟨hx, List.prefix_refl _⟩
          have hm : p ∈ m := List.mem_of_getElem? q1
          have s : Stp F H m (L2.upd F p (.lst ws)) H m := ⟨hx, List.prefix_refl _, fun _ _ z _ => z, fun _ z n => absurd z n, fun a o z n f => by
            rw [upd_ne (fun e => n (by rw [e]; exact hm))]; exact f⟩
          have h' : Hol X.K (L2.upd F p (.lst ws)) H m (O.set k none) := by
            refine ⟨fun a o z => ?_, h.nd, h.th, by rw [List.length_set]; exact h.len, fun j o e => ?_⟩
            · by_cases y : a = p
              · subst y; rw [upd_same] at z; cases z; exact e2
              · rw [upd_ne y] at z; exact h.ex a o z
            · have nj : k ≠ j := fun y => by
                subst y
                rw [List.getElem?_set_self (List.getElem?_eq_some_iff.mp q').1] at e
                cases e
              rw [List.getElem?_set_ne nj] at e
              obtain ⟨a, ho2, g1, g2, g3, g4⟩ := h.own j o e
              have na : a ≠ p := fun y => by
                subst y
                obtain ⟨p1, z1⟩ := List.getElem?_eq_some_iff.mp g1
                obtain ⟨p2, z2⟩ := List.getElem?_eq_some_iff.mp q1
                exact nj ((List.getElem_inj h.nd).mp (z2.trans z1.symm))
              exact ⟨a, ho2, g1, by rw [upd_ne na]; exact g2, g3, g4.mono s⟩
          have en' : EnvR X.K (L2.upd F p (.lst ws)) m σ (δ.set i (some (.lst ds))) := by
            have e0 := (en.mono s).set i (v := .ref p) (d := .lst ds) (.lst upd_same (rw'.mono s))
            have es : σ.set i (some (V.ref p)) = σ := by
              have hi := (List.getElem?_eq_some_iff.mp e1)
              obtain ⟨hi, ei⟩ := hi
              rw [← ei]
              exact List.set_getElem_self hi
            rw [es] at e0
            exact e0
          exact hr.sn.go σ H _ m _ _ E D h' en' t (fn.mono s)
    · exact t.elim
  · exact t.elim⟩⟩
end
end DL

/-! DL, part z: zip of a tuple and a list. -/
namespace DL
namespace ZM
open PySem PySem.Spec PyProof.Rows L2
open PySem.Sem (wp)

theorem tupDraws {prog : Program} {w : World} {A : Around} (hh : A.handled = none) {it a : Addr} (ne : a ≠ it) (us : Array Value) :
    Draws prog w A it [it, a] us.size (fun i v => us[i]? = some v) (fun i h => h.IsTupleIter it a i ∧ h.IsTuple a us) := by
  refine ⟨fun i h st => ?_, fun i h h' st k => ?_, fun i s Q E hi st g => ?_, fun s Q E st g => ?_⟩
  · obtain ⟨o, e, _⟩ := st.1
    exact ⟨o, e⟩
  · obtain ⟨s1, o, e, r⟩ := st
    exact ⟨s1.at fun o q => k it (List.mem_cons_self) o q, o, k a (by simp) o e, r⟩
  · have hx : us[i]? = some us[i] := by simp [hi]
    refine RZ.nextOf_tuple_item st.1 st.2 hx fun h1 st1 sb => ?_
    refine g _ h1 s.toks hx ⟨st1, ?_⟩ sb
    obtain ⟨o, e, r⟩ := st.2
    exact ⟨o, (sb.2 a ne).trans e, r⟩
  · exact RZ.nextOf_tuple_end hh st.1 st.2 (by simp) g
def ItM (K : PySem.W.Frag) (a b : Addr) : It where
  go := fun i H => ∃ (xs ys : List V) (x y : V), SqT K H a xs ∧ SqL K H b ys ∧ xs[i]? = some x ∧ ys[i]? = some y
  yld := fun i H v H' => ∃ T x y, v = .ref T ∧ H T = none ∧ H' = L2.upd H T (.tup [x, y]) ∧ (∀ xs, SqT K H a xs → xs[i]? = some x) ∧ ∀ ys, SqL K H b ys → ys[i]? = some y
  stop := fun i H => ∃ xs ys : List V, SqT K H a xs ∧ SqL K H b ys ∧ (xs.length ≤ i ∨ ys.length ≤ i) ∧ i ≤ xs.length ∧ i ≤ ys.length
theorem sep {z TI TO i1 i2 a b : Addr} (D : ZipApart z TI TO i1 i2 a b) : ZipSep2 z TI TO i1 i2 [i1, a] [i2, b] where
  TIz := D.TIz
  TOz := D.TOz
  TITO := D.TITO
  TIi1 := D.TIi1
  TIi2 := D.TIi2
  mem1 := List.mem_cons_self
  mem2 := List.mem_cons_self
  zf1 := by simp [Ne.symm D.i1z, Ne.symm D.l1z]
  zf2 := by simp [Ne.symm D.i2z, Ne.symm D.l2z]
  Tf1 := by simp [D.TOi1, Ne.symm D.l1TO]
  Tf2 := by simp [D.TOi2, Ne.symm D.l2TO]
  sep1_2 := by simp [D.i12, Ne.symm D.l2i1]
  sep2_1 := by simp [Ne.symm D.i12, Ne.symm D.l1i2]
def tnM (z TI TO i1 i2 a b : Addr) (i : Nat) (h : Heap) : Prop := IsZip h z TI TO .none ∧ IsTupOf2 h TI (.ref i1) (.ref i2) ∧ (∃ x y, IsTupOf2 h TO x y) ∧ h.IsTupleIter i1 a i ∧ h.IsListIter i2 b i
theorem mem5 {c z TI TO i1 i2 : Addr} : c ∈ [z, TI, TO, i1, i2] ↔ c = z ∨ c = TI ∨ c = TO ∨ c = i1 ∨ c = i2 := by simp
theorem turnM {P : Program} {w : World} {K : PySem.W.Frag} {elts : List Expr} {kk : Nat} {tpos : Pos} {a b z TI TO i1 i2 : Addr} (D : ZipApart z TI TO i1 i2 a b) :
    Turn P w K (.Tuple elts kk tpos) (ItM K a b) [z, TI, TO, i1, i2] z (tnM z TI TO i1 i2 a b) := by
  have live : ∀ {i : Nat} {h : Heap}, tnM z TI TO i1 i2 a b i h → ∀ c ∈ [z, TI, TO, i1, i2], ∃ o, h.get? c = some o ∧ ∀ v, o.data ≠ .cell v := by
    rintro i h ⟨g1, g2, ⟨x, y, g3⟩, ⟨o4, g4, _, d4⟩, ⟨o5, g5, _, d5⟩⟩ c hc
    rcases mem5.mp hc with e | e | e | e | e <;> subst e
    · exact ⟨_, g1, fun v q => nomatch q⟩
    · exact ⟨_, g2, fun v q => nomatch q⟩
    · exact ⟨_, g3, fun v q => nomatch q⟩
    · exact ⟨o4, g4, fun v q => by rw [d4] at q; cases q⟩
    · exact ⟨o5, g5, fun v q => by rw [d5] at q; cases q⟩
  refine ⟨List.mem_cons_self, fun i h st c hc => live st c hc, fun i h h' st k => ?_, ?_, ?_, fun A i s Q E st g => wpAny_pyIter_zip st.1 g⟩
  · obtain ⟨g1, g2, ⟨x, y, g3⟩, g4, g5⟩ := st
    exact ⟨k _ (by simp) _ g1, k _ (by simp) _ g2, ⟨x, y, k _ (by simp) _ g3⟩, g4.at fun o q => k _ (by simp) o q, g5.at fun o q => k _ (by simp) o q⟩
  · intro X eP eW eK hc i pins s σ H E I hf st hg
    subst eP eW eK
    have lv := live st
    obtain ⟨g1, g2, ⟨x0, y0, g3⟩, g4, g5⟩ := st
    obtain ⟨xs, ys, x, y, qx, qy, hx, hy⟩ := hg
    obtain ⟨us, ru, tu, _⟩ := I.tuple qx
    obtain ⟨ws, rw', pl, _⟩ := I.list qy
    obtain ⟨u, hu, rux⟩ := ru.get hx
    obtain ⟨v, hv, rvy⟩ := rw'.get hy
    have hd : X.A.in1.handled = none := I.ok.hd hc
    have lu : i < us.toArray.size := by simpa using (List.getElem?_eq_some_iff.mp hu).1
    have lw : i < ws.toArray.size := by simpa using (List.getElem?_eq_some_iff.mp hv).1
    refine wpAny_pyNext_zipD2_item (sep D) (tupDraws hd D.l1i1 us.toArray) (Draws.list hd i2 b D.l2i2 ws.toArray) g1 g2 g3 ⟨g4, tu⟩ ⟨g5, pl.isList⟩ lu lw fun x1 x2 h1 tk p1 p2 z1 t1 st1 st2 nw sz kp => ?_
    have e1 : u = x1 := by
      have p1' : us[i]? = some x1 := by simpa using p1
      rw [hu] at p1'; cases p1'; rfl
    have e2 : v = x2 := by
      have p2' : ws[i]? = some x2 := by simpa using p2
      rw [hv] at p2'; cases p2'; rfl
    subst e1 e2
    refine ⟨_, rfl, wpAny_letOwnedTupleGo_zip (s := { s with heap := h1, toks := tk }) z1 fun h2 z2 sb => ?_⟩
    have lt : ∀ {c : Addr}, c ∈ [z, TI, TO, i1, i2] → c < s.heap.objs.size := fun hc => by
      obtain ⟨o, e, _⟩ := lv _ hc
      exact Heap.lt_size e
    have nz : s.heap.objs.size ≠ z := Nat.ne_of_gt (lt (by simp))
    have nwT : h2.get? s.heap.objs.size = some { cls := .type "tuple", data := .seq #[u, v] } := (sb.2 _ nz).trans nw
    have ok : ObjOk X.prog X.w (L2.upd H s.heap.objs.size (.tup [x, y])) h2 s.heap.objs.size (.tup [x, y]) :=
      ⟨by show 2 ≤ sizeLine; decide, [u, v], .cons rux (.cons rvy .nil), _, nwT, rfl, _, rfl⟩
    have kp2 : ∀ c o, c ∉ [z, TI, TO, i1, i2] → s.heap.get? c = some o → h2.get? c = some o := fun c o hn q => by
      have n := fun w => hn (mem5.mpr w)
      rw [sb.2 c fun e => n (.inl e)]
      exact kp c o (fun e => n (.inl e)) (fun e => n (.inr (.inr (.inl e)))) (fun e => n (.inr (.inr (.inr (.inl e))))) (fun e => n (.inr (.inr (.inr (.inr e))))) q
    have J : Inv X pins σ (L2.upd H s.heap.objs.size (.tup [x, y])) { s with heap := h2, toks := tk } := I.turnedNew kp2 hf (Nat.le_refl _) ok
    refine ⟨.ref s.heap.objs.size, _, J, rfl, ⟨_, x, y, rfl, I.hok.fresh (Nat.le_refl _), rfl, fun l hl => ?_, fun l hl => ?_⟩, ⟨z2, ?_, ⟨u, v, (sb.2 _ D.TOz).trans t1⟩, st1.1.at fun o q => (sb.2 _ D.i1z).trans q, st2.1.at fun o q => (sb.2 _ D.i2z).trans q⟩, fun c hcm => ?_⟩
    · rw [I.tuple_inj hl qx]; exact hx
    · rw [I.list_inj hl qy]; exact hy
    · exact (sb.2 _ D.TIz).trans (kp _ _ D.TIz D.TITO D.TIi1 D.TIi2 g2)
    · rw [upd_ne (Nat.ne_of_lt (lt hcm))]
      exact (hf c hcm).1
  · intro X eP eW eK hc i pins s σ H E I hf st hg
    subst eP eW eK
    obtain ⟨g1, g2, ⟨x0, y0, g3⟩, g4, g5⟩ := st
    obtain ⟨xs, ys, qx, qy, he, hx, hy⟩ := hg
    obtain ⟨us, ru, tu, _⟩ := I.tuple qx
    obtain ⟨ws, rw', pl, _⟩ := I.list qy
    have l1 := ru.length
    have l2 := rw'.length
    have hd : X.A.in1.handled = none := I.ok.hd hc
    have s1 : us.toArray.size = us.length := by simp
    have s2 : ws.toArray.size = ws.length := by simp
    refine wpAny_pyNext_zipD2_end (sep D) (tupDraws hd D.l1i1 us.toArray) (Draws.list hd i2 b D.l2i2 ws.toArray) g1 g2 g3 ⟨g4, tu⟩ ⟨g5, pl.isList⟩ (by omega) (by omega) (by omega) fun h1 tk kp => ⟨rfl, ?_⟩
    exact I.turnedL (ch := [z, TI, TO, i1, i2]) (fun c o hn q => by
      have n := fun w => hn (mem5.mpr w)
      exact kp c o (fun e => n (.inl e)) (fun e => n (.inr (.inr (.inl e)))) (fun e => n (.inr (.inr (.inr (.inl e))))) (fun e => n (.inr (.inr (.inr (.inr e))))) q) hf
/-! ### its making -/
def hp1 (h : Heap) (a : Addr) : Heap := h.push { cls := .type "tuple_iterator", data := .fields #[.ref a, .int 0 0] }
def hp2 (h : Heap) (a b : Addr) : Heap := (hp1 h a).push { cls := .type "list_iterator", data := .fields #[.ref b, .int 0 0] }
def hp3 (h : Heap) (a b : Addr) : Heap := (hp2 h a b).push { cls := .type "tuple", data := .seq #[.ref h.objs.size, .ref (hp1 h a).objs.size] }
def hp4 (h : Heap) (a b : Addr) : Heap := (hp3 h a b).push { cls := .type "tuple", data := .seq #[.none, .none] }
def hp5 (h : Heap) (a b : Addr) : Heap := (hp4 h a b).push { cls := .type "zip", data := .fields #[.none, .bool false, .bool false, .ref (hp2 h a b).objs.size, .ref (hp3 h a b).objs.size] }
theorem newM (a b : Addr) (us ws : Array Value) : Meets (Builtin.«zip.__new__» ⟨[.type "zip", .ref a, .ref b], []⟩)
    (fun _ R s => s.heap.IsTuple a us ∧ s.heap.IsList b ws ∧ R (.ok (.ret (.ref (hp4 s.heap a b).objs.size))) { s with heap := hp5 s.heap a b }) :=
  .of_wp fun prog w A R s hq => by
    obtain ⟨h, g, d, tk, os⟩ := s
    obtain ⟨q1, q2, q3⟩ := hq
    have sz := sub_zip
    have y1 : Heap.IsTuple (Shared.heap ⟨h, g, d, tk, os⟩) a us := q1
    have y2 : Heap.IsList (Shared.heap ⟨h.push { cls := .type "tuple_iterator", data := .fields #[.ref a, .int 0 0] }, g, d, tk, os⟩) b ws := Heap.IsList.push q2 _
    wp_walk using wpAny_pyIter_tuple y1, wpAny_pyIter_list y2
    exact ⟨_, rfl, q3⟩
section
variable {prog : Program} {w : World} {A : Around} {E : Value → Shared → Prop} {s : Shared}
theorem callM {a b : Addr} {us ws : Array Value} {Q : Value → Shared → Prop} (q1 : s.heap.IsTuple a us) (q2 : s.heap.IsList b ws)
    (q : ∀ h', tnM (s.heap.objs.size + 4) (s.heap.objs.size + 2) (s.heap.objs.size + 3) s.heap.objs.size (s.heap.objs.size + 1) a b 0 h' → (∀ c o, s.heap.get? c = some o → h'.get? c = some o) → Q (.ref (s.heap.objs.size + 4)) { s with heap := h' }) :
    wpAny (model prog w) A (call (.type "zip") [.ref a, .ref b]) Q E s := by
  refine callType_new F.called_zip (by decide) (F.typeCall_zip_2 _ _) (F.newCall_zip_2 _ _) (fun o => F.args_object_init_3 o _ _) F.entry_zip_new (newM a b us ws) ⟨q1, q2, ?_⟩
  have n1 : (hp1 s.heap a).objs.size = s.heap.objs.size + 1 := Heap.size_push ..
  have n2 : (hp2 s.heap a b).objs.size = s.heap.objs.size + 2 := (Heap.size_push ..).trans (congrArg (· + 1) n1)
  have n3 : (hp3 s.heap a b).objs.size = s.heap.objs.size + 3 := (Heap.size_push ..).trans (congrArg (· + 1) n2)
  have n4 : (hp4 s.heap a b).objs.size = s.heap.objs.size + 4 := (Heap.size_push ..).trans (congrArg (· + 1) n3)
  have u4 : ∀ {c o}, (hp4 s.heap a b).get? c = some o → (hp5 s.heap a b).get? c = some o := fun e => Heap.get?_push_of_some _ e
  have u3 : ∀ {c o}, (hp3 s.heap a b).get? c = some o → (hp5 s.heap a b).get? c = some o := fun e => u4 (Heap.get?_push_of_some _ e)
  have u2 : ∀ {c o}, (hp2 s.heap a b).get? c = some o → (hp5 s.heap a b).get? c = some o := fun e => u3 (Heap.get?_push_of_some _ e)
  have u1 : ∀ {c o}, (hp1 s.heap a).get? c = some o → (hp5 s.heap a b).get? c = some o := fun e => u2 (Heap.get?_push_of_some _ e)
  have o5 : (hp5 s.heap a b).get? (hp4 s.heap a b).objs.size = some _ := Heap.get?_push_size _ rfl
  have o4 : (hp5 s.heap a b).get? (hp3 s.heap a b).objs.size = some _ := u4 (Heap.get?_push_size _ rfl)
  have o3 : (hp5 s.heap a b).get? (hp2 s.heap a b).objs.size = some _ := u3 (Heap.get?_push_size _ rfl)
  have o2 : (hp5 s.heap a b).get? (hp1 s.heap a).objs.size = some _ := u2 (Heap.get?_push_size _ rfl)
  have o1 : (hp5 s.heap a b).get? s.heap.objs.size = some _ := u1 (Heap.get?_push_size _ rfl)
  rw [n2, n3, n4] at o5
  rw [n3] at o4
  rw [n1, n2] at o3
  rw [n1] at o2
  show _ ∧ _
  rw [n4]
  exact ⟨⟨_, o5, rfl⟩, q _ ⟨o5, o3, ⟨_, _, o4⟩, ⟨_, o1, rfl, rfl⟩, ⟨_, o2, rfl, rfl⟩⟩ fun c o e => u1 (Heap.get?_push_of_some _ e)⟩
end
def iZipM (K : PySem.W.Frag) (ta : TA) : TI := fun σ H R => ta σ H fun vs H1 => ∃ a b xs ys, vs = [.ref a, .ref b] ∧ SqT K H1 a xs ∧ SqL K H1 b ys ∧ R (ItM K a b) H1
theorem pi_zipM {X : Cx} {e e2 : Expr} {ta : TA} {p pos tpos : Pos} {elts : List Expr} {kk : Nat} (hg : Gl X "zip") (hm : X.mg "zip" = none) (ha : PA X [e, e2] ta)
    (hs : starEach [e, e2] X.env = (false, eval e X.env) :: starEach [e2] X.env := by rfl) (hpl : (backTo pos (starEach [e2] X.env)).any (·.1) = false := by rfl) :
    PI X (.Tuple elts kk tpos) (.Call (.Name "zip" p) [e, e2] [] pos) (iZipM X.K ta) := by
  refine ⟨fun pins s σ H R I h => ?_⟩
  refine Call_ (ld_blt I hg hm PyProof.Rows.boot_zip (PyProof.Rows.callWith_type1 (thn (ha.run pos pins s σ H _ I h) fun us s1 ⟨vs, H1, J, rr, q⟩ => ?_) hs hpl))
  obtain ⟨a, b, xs, ys, ev, qx, qy, q⟩ := q
  subst ev
  obtain ⟨u1, u2, eu, r1, r2⟩ := vals2 rr
  cases (show u1 = Value.ref a from r1)
  cases (show u2 = Value.ref b from r2)
  subst eu
  obtain ⟨us, ru, tu, _⟩ := J.tuple qx
  obtain ⟨ws, rw', pl, _⟩ := J.list qy
  refine callM tu pl.isList fun h1 st kp => wpAny_pyIter_zip st.1 ?_
  have la : a < s1.heap.objs.size := by obtain ⟨o, e, _⟩ := tu; exact Heap.lt_size e
  refine ⟨s1.heap.objs.size + 4, [s1.heap.objs.size + 4, s1.heap.objs.size + 2, s1.heap.objs.size + 3, s1.heap.objs.size, s1.heap.objs.size + 1], _, _, H1, rfl, J.kept (t' := s1.toks) kp, turnM (PySem.W.ktu_apart s1.heap.objs.size a b la pl.lt), st, fun c hc => ?_, q⟩
  have hle : s1.heap.objs.size ≤ c := by
    rcases mem5.mp hc with e | e | e | e | e <;> rw [e] <;> first | exact Nat.le_refl _ | exact Nat.le_add_right _ _
  exact J.fpOk hle (J.hok.fresh hle)
end ZM
open PySem L2
section
variable {K : PySem.W.Frag} {X : Cx} {e : Expr} {te : TE} {de : DE} {pos : Pos}
def diZipT (ta tb : DE) : DI := fun δ O R => ta δ O fun a O1 => tb δ O1 fun b O2 => match a with
  | .tup xs => oK (asL O2 b) fun ys => xs.length = ys.length ∧ R (zipD xs ys) (fun O' => asL O' b = some ys) O2
  | _ => False
theorem pdi_zipT {e2 : Expr} {te2 : TE} {de2 : DE} {p pos tpos : Pos} {elts : List Expr} {kk : Nat} (hg : Gl X "zip") (hm : X.mg "zip" = none) (h : PD X e te de) (h2 : PD X e2 te2 de2)
    (hs : starEach [e, e2] X.env = (false, eval e X.env) :: starEach [e2] X.env := by rfl) (hs2 : starEach [e2] X.env = (false, eval e2 X.env) :: starEach [] X.env := by rfl) (hpl : (backTo pos (starEach [e2] X.env)).any (·.1) = false := by rfl) :
    PDI X (.Tuple elts kk tpos) (.Call (.Name "zip" p) [e, e2] [] pos) (ZM.iZipM X.K (tCons te (tCons te2 tNil))) (diZipT de de2) := ⟨ZM.pi_zipM hg hm (pa_cons h.pe (pa_cons h2.pe pa_nil hs2) hs) hs hpl, fun σ H F m δ O R Q hh en q f => h.sn.go σ H F m δ O _ _ hh en q fun v H1 F1 m1 a O1 s1 h1 r1 t1 =>
  h2.sn.go σ H1 F1 m1 δ O1 _ _ h1 (en.mono s1) t1 fun w H2 F2 m2 b O2 s2 h2' r2 t2 => by
    have r1' := r1.mono s2
    cases r1' with
    | @tup p1 us xs fq rr1 =>
      obtain ⟨ys, e2', el, t2⟩ := t2.ex
      obtain ⟨p2, ws, rfl, hp2, rr2⟩ := asL_rep h2' r2 e2'
      have l1 := rr1.length
      have now2 : ∀ {H' F' : Hp} {m' : List Addr} {O' : Own}, Sub F2 m2 F' m' → Hol X.K F' H' m' O' → asL O' b = some ys → ∃ zs, H' p2 = some (.lst zs) ∧ RepL X.K F' m' zs ys := fun s' h' e' => by
        obtain ⟨p', ys, ep, hp', rr'⟩ := asL_rep h' (Rep.mono0 s' r2) e'
        cases ep
        exact ⟨ys, hp', rr'⟩
      have tq : ∀ {H' F' : Hp} {m' : List Addr} {O' : Own}, Sub F2 m2 F' m' → Hol X.K F' H' m' O' → SqT X.K H' p1 us := fun s' h' => SqT.of (h'.ex _ _ (s'.ex _ _ fq))
      refine ⟨p1, p2, us, ws, rfl, SqT.of (h2'.ex _ _ fq), SqL.of hp2, f (ZM.ItM X.K p1 p2) H2 F2 m2 _ _ O2 (s1.trans s2) h2' ⟨fun i H' F' m' O' s' h' e' hi => ?_, fun i H' F' m' O' s' h' e' hi => ?_, fun i H' F' m' O' x H3 d s' h' e' hd y => ?_⟩ t2⟩
      · rw [zipD_length] at hi
        obtain ⟨ws', hp2', rr2'⟩ := now2 s' h' e'
        have l2 := rr2'.length
        exact ⟨us, ws', us[i], ws'[i], tq s' h', SqL.of hp2', List.getElem?_eq_getElem (by omega), List.getElem?_eq_getElem (by omega)⟩
      · rw [zipD_length] at hi
        obtain ⟨ws', hp2', rr2'⟩ := now2 s' h' e'
        have l2 := rr2'.length
        exact ⟨us, ws', tq s' h', SqL.of hp2', by omega, by omega, by omega⟩
      · obtain ⟨ws', hp2', rr2'⟩ := now2 s' h' e'
        obtain ⟨T, x1, x2, e3, n, e4, y1, y2⟩ := y
        subst e3 e4
        obtain ⟨d1, d2, g1, g2, g3⟩ := zipD_get hd
        subst g3
        obtain ⟨v1, k1, q1⟩ := rr1.get g1
        obtain ⟨v2, k2, q2⟩ := rr2'.get g2
        have z1 := y1 us (tq s' h')
        have z2 := y2 ws' (SqL.of hp2')
        rw [k1] at z1
        rw [k2] at z2
        cases z1
        cases z2
        obtain ⟨s3, h3⟩ := h'.frz (ho := .tup [x1, x2]) n
        exact ⟨_, s3, h3, .tup upd_same (.cons ((Rep.mono0 s' q1).mono s3) (.cons (q2.mono s3) .nil))⟩
    | _ => exact t2.elim⟩
end
end DL

/-! DL, part h: helpers for what a reading says. -/
namespace DL
open PySem L2

theorem ifD {p : Prop} [Decidable p] {A B : Prop} (h1 : p → A) (h2 : ¬ p → B) : if decide p = true then A else B := by
  by_cases h : p
  · rw [if_pos (decide_eq_true h)]; exact h1 h
  · rw [if_neg (by rw [decide_eq_false h]; exact Bool.false_ne_true)]; exact h2 h
theorem ifB {b : Bool} {A B : Prop} (h1 : b = true → A) (h2 : b = false → B) : if b = true then A else B := by
  cases b with
  | true => rw [if_pos rfl]; exact h1 rfl
  | false => rw [if_neg Bool.false_ne_true]; exact h2 rfl
theorem ifT {b : Bool} {A B : Prop} (h : b = true) (h1 : A) : if b = true then A else B := by rw [if_pos h]; exact h1
theorem ifF {b : Bool} {A B : Prop} (h : b = false) (h1 : B) : if b = true then A else B := by rw [h, if_neg Bool.false_ne_true]; exact h1
theorem ifNT {b : Bool} {A B : Prop} (h : b = true) (h1 : B) : if (!b) = true then A else B := by rw [h]; exact h1
theorem ifNF {b : Bool} {A B : Prop} (h : b = false) (h1 : A) : if (!b) = true then A else B := by rw [h]; exact h1

/-! ### == -/
theorem eqv_bool (a b : Bool) : PyData.eqv (.bool a) (.bool b) = (a == b) := by simp only [PyData.eqv]
theorem eqv_tup (a b : List PyData) : PyData.eqv (.tuple a) (.tuple b) = PyData.eqvAll a b := by simp only [PyData.eqv]
theorem eqv_lst (a b : List PyData) : PyData.eqv (.list a) (.list b) = PyData.eqvAll a b := by simp only [PyData.eqv]
theorem eqvAll_nil : PyData.eqvAll [] [] = true := by simp only [PyData.eqvAll]
theorem eqvAll_cons (a b : PyData) (x y : List PyData) : PyData.eqvAll (a :: x) (b :: y) = (PyData.eqv a b && PyData.eqvAll x y) := by simp only [PyData.eqvAll]
theorem eqvAll_l (a : PyData) (x : List PyData) : PyData.eqvAll (a :: x) [] = false := by simp only [PyData.eqvAll]
theorem eqvAll_r (a : PyData) (x : List PyData) : PyData.eqvAll [] (a :: x) = false := by simp only [PyData.eqvAll]
/-- what pyD gives is equal to itself -/
theorem pyD_refl {O : Own} : ∀ (n : Nat) (d : D) (p : PyData), pyD O n d = some p → PyData.eqv p p = true
  | 0, _, _, e => by cases e
  | n + 1, d, p, e => by
    have ih := pyD_refl (O := O) n
    have all : ∀ (ds : List D) (ps : List PyData), pyL (pyD O n) ds = some ps → PyData.eqvAll ps ps = true := by
      intro ds
      induction ds with
      | nil => intro ps e; cases e; exact eqvAll_nil
      | cons d ds ihl =>
        intro ps e
        obtain ⟨q, qs, e1, e2, rfl⟩ := pyL_cons e
        rw [eqvAll_cons, ih d q e1, ihl qs e2]
        rfl
    have okM : ∀ {f : List PyData → PyData} {o : Option (List PyData)} {p : PyData}, o.map f = some p → ∃ ps, o = some ps ∧ p = f ps := fun {f o p} e => by
      cases o with
      | none => cases e
      | some ps => exact ⟨ps, rfl, (Option.some.inj e).symm⟩
    cases d with
    | non => cases e; simp only [PyData.eqv]
    | bl b => cases e; rw [eqv_bool]; exact beq_self_eq_true b
    | int i => cases e; rw [eqv_int]; exact decide_eq_true rfl
    | str s =>
      unfold pyD at e
      dsimp only at e
      split at e
      · cases e; rw [eqv_str]; exact decide_eq_true rfl
      · cases e
    | tup ds =>
      obtain ⟨ps, e1, rfl⟩ := okM e
      rw [eqv_tup]; exact all ds ps e1
    | lst ds =>
      obtain ⟨ps, e1, rfl⟩ := okM e
      rw [eqv_lst]; exact all ds ps e1
    | own k =>
      unfold pyD at e
      dsimp only at e
      split at e
      · obtain ⟨ps, e1, rfl⟩ := okM e
        rw [eqv_lst]; exact all _ ps e1
      · cases e
    | _ => cases e

/-! ### data whose == is told: PyD d p at any depth that is enough -/
/-- d is p for ==, whatever is held, at depth n -/
def Py (n : Nat) (d : D) (p : PyData) : Prop := ∀ (O : Own) (k : Nat), n ≤ k → pyD O k d = some p
def PyAll (n : Nat) (ds : List D) (ps : List PyData) : Prop := ∀ (O : Own) (k : Nat), n ≤ k → pyL (pyD O k) ds = some ps
theorem Py.mono {n k : Nat} {d : D} {p : PyData} (h : Py n d p) (l : n ≤ k) : Py k d p := fun O j hj => h O j (Nat.le_trans l hj)
theorem PyAll.mono {n k : Nat} {d : List D} {p : List PyData} (h : PyAll n d p) (l : n ≤ k) : PyAll k d p := fun O j hj => h O j (Nat.le_trans l hj)
theorem Py.int (i : Int) : Py 1 (.int i) (.int i) := fun O k h => by cases k with | zero => omega | succ k => rfl
theorem Py.bl (i : Bool) : Py 1 (.bl i) (.bool i) := fun O k h => by cases k with | zero => omega | succ k => rfl
theorem Py.non : Py 1 .non .none := fun O k h => by cases k with | zero => omega | succ k => rfl
theorem Py.str {s : Str} (h : PyData.strOk s = true) : Py 1 (.str s) (.str s) := fun O k hk => by
  cases k with
  | zero => omega
  | succ k =>
    show (if PyData.strOk s = true then some (PyData.str s) else none) = _
    rw [if_pos h]
theorem PyAll.nil (n : Nat) : PyAll n [] [] := fun O k h => rfl
theorem PyAll.cons {n : Nat} {d : D} {p : PyData} {ds : List D} {ps : List PyData} (h : Py n d p) (t : PyAll n ds ps) : PyAll n (d :: ds) (p :: ps) := fun O k hk => by
  show (match pyD O k d, pyL (pyD O k) ds with | some p, some ps => some (p :: ps) | _, _ => none) = _
  rw [h O k hk, t O k hk]
theorem Py.tup {n : Nat} {ds : List D} {ps : List PyData} (h : PyAll n ds ps) : Py (n + 1) (.tup ds) (.tuple ps) := fun O k hk => by
  cases k with
  | zero => omega
  | succ k =>
    show (pyL (pyD O k) ds).map PyData.tuple = _
    rw [h O k (by omega)]
    rfl
theorem Py.lst {n : Nat} {ds : List D} {ps : List PyData} (h : PyAll n ds ps) : Py (n + 1) (.lst ds) (.list ps) := fun O k hk => by
  cases k with
  | zero => omega
  | succ k =>
    show (pyL (pyD O k) ds).map PyData.list = _
    rw [h O k (by omega)]
    rfl
theorem PyAll.map {α : Type} {n : Nat} (f : α → D) (g : α → PyData) : ∀ (l : List α), (∀ x ∈ l, Py n (f x) (g x)) → PyAll n (l.map f) (l.map g)
  | [], _ => PyAll.nil n
  | x :: l, h => PyAll.cons (h x List.mem_cons_self) (PyAll.map f g l fun y hy => h y (List.mem_cons_of_mem _ hy))
theorem PyAll.ints (ns : List Int) : PyAll 1 (ns.map D.int) (ns.map PyData.int) := PyAll.map D.int PyData.int ns fun x _ => Py.int x
theorem PyAll.append {n : Nat} {ds es : List D} {ps qs : List PyData} (h : PyAll n ds ps) (g : PyAll n es qs) : PyAll n (ds ++ es) (ps ++ qs) := by
  induction ds generalizing ps with
  | nil =>
    have e := h [] n (Nat.le_refl _)
    cases e
    exact g
  | cons d ds ih =>
    have e := h [] n (Nat.le_refl _)
    obtain ⟨q, qs', e1, e2, rfl⟩ := pyL_cons e
    refine PyAll.cons (fun O k hk => ?_) (ih fun O k hk => ?_)
    · obtain ⟨q', qs'', f1, f2, f3⟩ := pyL_cons (h O k hk)
      cases f3
      exact f1
    · obtain ⟨q', qs'', f1, f2, f3⟩ := pyL_cons (h O k hk)
      cases f3
      exact f2
/-- == of two data told -/
theorem eqG_of {n k : Nat} {O : Own} {a b : D} {p q : PyData} {R : D → Own → Prop} (ha : Py n a p) (hb : Py k b q) (hn : n ≤ 40) (hk : k ≤ 40) (h : R (.bl (PyData.eqv p q)) O) : eqG O a b R := by
  unfold eqG oK
  rw [ha O 40 hn, hb O 40 hk]
  exact h
theorem eqD_of {n k : Nat} {O : Own} {a b : D} {p q : PyData} {R : D → Own → Prop} (ha : Py n a p) (hb : Py k b q) (hn : n ≤ 40) (hk : k ≤ 40) (h : R (.bl (PyData.eqv p q)) O) : eqD O a b R := eqG_D (eqG_of ha hb hn hk h)
theorem neD_of {n k : Nat} {O : Own} {a b : D} {p q : PyData} {R : D → Own → Prop} (ha : Py n a p) (hb : Py k b q) (hn : n ≤ 40) (hk : k ≤ 40) (h : R (.bl (!PyData.eqv p q)) O) : neD O a b R := eqD_of ha hb hn hk h
theorem eqD_self {O : Own} {a : D} {p : PyData} {R : D → Own → Prop} (ha : pyD O 40 a = some p) (h : R (.bl true) O) : eqD O a a R := by
  refine eqG_D ?_
  unfold eqG oK
  rw [ha]
  show R (.bl (PyData.eqv p p)) O
  rw [pyD_refl 40 a p ha]
  exact h
theorem neD_self {O : Own} {a : D} {p : PyData} {R : D → Own → Prop} (ha : pyD O 40 a = some p) (h : R (.bl false) O) : neD O a a R := eqD_self ha h
/-! ### comprehensions -/
/-- every item kept, its element told -/
theorem lc_map {i : Nat} {te : DE} {chk : Own → Prop} {δ : DSt} {R : List D → Own → Prop} {O : Own} (f : D → D) (hc : chk O) : ∀ (ds acc : List D), (∀ d ∈ ds, ∀ Q : D → Own → Prop, Q (f d) O → te (δ.set i (some d)) O Q) → acc.length + ds.length ≤ 1000000 → R (acc ++ ds.map f) O →
    lcL (dgName i) dYes te chk δ R ds acc O
  | [], acc, _, _, h => ⟨hc, by simpa using h⟩
  | d :: ds, acc, he, hl, h => by
    refine ⟨hc, ?_⟩
    show te (δ.set i (some d)) O _
    rw [List.length_cons] at hl
    refine he d List.mem_cons_self _ ⟨by omega, lc_map f hc ds (acc ++ [f d]) (fun x hx => he x (List.mem_cons_of_mem _ hx)) (by rw [List.length_append, List.length_singleton]; omega) ?_⟩
    rw [List.append_assoc]
    exact h
/-- some items kept -/
theorem lc_filter {i : Nat} {tt : DT} {te : DE} {chk : Own → Prop} {δ : DSt} {R : List D → Own → Prop} {O : Own} (b : D → Bool) (f : D → D) (hc : chk O) : ∀ (ds acc : List D), (∀ d ∈ ds, ∀ Q : Bool → Own → Prop, Q (b d) O → tt (δ.set i (some d)) O Q) →
    (∀ d ∈ ds, b d = true → ∀ Q : D → Own → Prop, Q (f d) O → te (δ.set i (some d)) O Q) → acc.length + ds.length ≤ 1000000 → R (acc ++ (ds.filter b).map f) O → lcL (dgName i) tt te chk δ R ds acc O
  | [], acc, _, _, _, h => ⟨hc, by simpa using h⟩
  | d :: ds, acc, hb, he, hl, h => by
    rw [List.length_cons] at hl
    refine ⟨hc, ?_⟩
    show tt (δ.set i (some d)) O _
    refine hb d List.mem_cons_self _ ?_
    cases q : b d with
    | true =>
      rw [if_pos rfl]
      refine he d List.mem_cons_self q _ ⟨by omega, lc_filter b f hc ds (acc ++ [f d]) (fun x hx => hb x (List.mem_cons_of_mem _ hx)) (fun x hx => he x (List.mem_cons_of_mem _ hx)) (by rw [List.length_append, List.length_singleton]; omega) ?_⟩
      rw [List.filter_cons_of_pos q, List.map_cons] at h
      rw [List.append_assoc]
      exact h
    | false =>
      rw [if_neg Bool.false_ne_true]
      rw [List.filter_cons_of_neg (by rw [q]; exact Bool.false_ne_true)] at h
      exact lc_filter b f hc ds acc (fun x hx => hb x (List.mem_cons_of_mem _ hx)) (fun x hx => he x (List.mem_cons_of_mem _ hx)) (by omega) h
/-! ### own lists at the top -/
theorem top_get {O : Own} {a : Option DO} : (O ++ [a])[O.length]? = some a := by rw [List.getElem?_append_right (Nat.le_refl _), Nat.sub_self]; rfl
theorem top_set {O : Own} {a b : Option DO} : (O ++ [a]).set O.length b = O ++ [b] := by rw [List.set_append_right _ _ (Nat.le_refl _), Nat.sub_self]; rfl
theorem top_take {O : Own} {l : Own} : (O ++ l).take O.length = O := List.take_left
theorem low_get {O l : Own} {i : Nat} (h : i < O.length) : (O ++ l)[i]? = O[i]? := List.getElem?_append_left h
theorem asL_up {O l : Own} {d : D} {ds : List D} (h : asL O d = some ds) : asL (O ++ l) d = some ds := by
  cases d with
  | own k =>
    unfold asL at h ⊢
    dsimp only at h ⊢
    cases q : O[k]? with
    | none => rw [q] at h; cases h
    | some o => rw [List.getElem?_append_left (List.getElem?_eq_some_iff.mp q).1, q]; rw [q] at h; exact h
  | _ => exact h
theorem rng_mem {lo : Int} {n : Nat} {d : D} (h : d ∈ rngD lo n) : ∃ i : Nat, i < n ∧ d = .int (lo + (i : Nat)) := by
  unfold rngD at h
  obtain ⟨i, hi, rfl⟩ := List.mem_map.mp h
  exact ⟨i, List.mem_range.mp hi, rfl⟩
theorem atI_at {α : Type} {l : List α} {i : Nat} {x : α} (h : l[i]? = some x) : atI l ((i : Nat) : Int) = some x := atI_nat h
theorem atI_of {α : Type} {l : List α} {z : Int} {x : α} (i : Nat) (e : z = (i : Nat)) (h : l[i]? = some x) : atI l z = some x := by rw [e]; exact atI_nat h
end DL
namespace DL
open PySem L2
theorem asL_top {O : Own} {ds : List D} : asL (O ++ [some (.lst ds)]) (.own O.length) = some ds := by
  unfold asL
  dsimp only
  rw [top_get]
/-- a range from its i-th item on -/
def rngM : Nat → Nat → List D
  | _, 0 => []
  | i, k + 1 => .int ((i : Nat) : Int) :: rngM (i + 1) k
theorem rngM_eq : ∀ (k i : Nat), rngM i k = (List.range' i k).map fun j => D.int ((j : Nat) : Int)
  | 0, _ => rfl
  | k + 1, i => by
    rw [List.range'_succ, List.map_cons, ← rngM_eq k (i + 1)]
    rfl
theorem rngN_from (n : Nat) : rngN n = rngM 0 n := by
  rw [rngM_eq, ← List.range_eq_range']
  rfl
theorem rngN_mem {n : Nat} {d : D} (h : d ∈ rngN n) : ∃ i : Nat, i < n ∧ d = .int ((i : Nat) : Int) := by
  unfold rngN at h
  obtain ⟨i, hi, rfl⟩ := List.mem_map.mp h
  exact ⟨i, List.mem_range.mp hi, rfl⟩
theorem rngN_length (n : Nat) : (rngN n).length = n := by simp [rngN]
theorem take_set {α : Type} {T A : List α} {i : Nat} {x : α} (hT : T[i]? = some x) (hl : T.length = A.length) : (T.take i ++ A.drop i).set i x = T.take (i + 1) ++ A.drop (i + 1) := by
  obtain ⟨h, e⟩ := List.getElem?_eq_some_iff.mp hT
  have hA : i < A.length := by omega
  have l1 : (T.take i).length = i := by rw [List.length_take]; omega
  rw [List.set_append_right _ _ (by omega), l1, Nat.sub_self, List.drop_eq_getElem_cons hA, List.set_cons_zero, List.take_succ_eq_append_getElem h, e, List.append_assoc]
  rfl
theorem take_get {α : Type} {T A : List α} {i : Nat} {x : α} (hA : A[i]? = some x) (hl : T.length = A.length) : (T.take i ++ A.drop i)[i]? = some x := by
  obtain ⟨h, e⟩ := List.getElem?_eq_some_iff.mp hA
  have l1 : (T.take i).length = i := by rw [List.length_take]; omega
  rw [List.getElem?_append_right (by omega), l1, Nat.sub_self, List.drop_eq_getElem_cons h, e]
  rfl
end DL
namespace DL
open PySem L2
/-- a for over told items, with what is kept up said of the items that are left -/
theorem forL_inv {α : Type} (f : α → D) {g : DTg} {b : DS} {chk : Own → Prop} {E : DEnds} (I : List α → DSt → Own → Prop) (hc : ∀ l δ O, I l δ O → chk O)
    (step : ∀ a l δ O nx, I (a :: l) δ O → (∀ δ' O', I l δ' O' → nx δ' O') → g (f a) δ O fun δ1 O1 => b { E with nx := nx, ct := nx, bk := E.nx } δ1 O1)
    (done : ∀ δ O, I [] δ O → E.nx δ O) : ∀ (l : List α) (δ : DSt) (O : Own), I l δ O → forL g b chk E (l.map f) δ O
  | [], δ, O, h => ⟨hc _ _ _ h, done _ _ h⟩
  | a :: l, δ, O, h => ⟨hc _ _ _ h, step a l δ O _ h fun δ' O' h' => forL_inv f I hc step done l δ' O' h'⟩
theorem forL_rngM {g : DTg} {b : DS} {chk : Own → Prop} {E : DEnds} (n : Nat) (I : Nat → DSt → Own → Prop) (hc : ∀ j δ O, I j δ O → chk O)
    (step : ∀ j δ O nx, j < n → I j δ O → (∀ δ' O', I (j + 1) δ' O' → nx δ' O') → g (.int ((j : Nat) : Int)) δ O fun δ1 O1 => b { E with nx := nx, ct := nx, bk := E.nx } δ1 O1)
    (done : ∀ δ O, I n δ O → E.nx δ O) : ∀ (k i : Nat) (δ : DSt) (O : Own), i + k = n → I i δ O → forL g b chk E (rngM i k) δ O
  | 0, i, δ, O, e, h => ⟨hc _ _ _ h, done _ _ ((show i = n by omega) ▸ h)⟩
  | k + 1, i, δ, O, e, h => ⟨hc _ _ _ h, step i δ O _ (by omega) h fun δ' O' h' => forL_rngM n I hc step done k (i + 1) δ' O' (by omega) h'⟩
theorem forL_rng {g : DTg} {b : DS} {chk : Own → Prop} {E : DEnds} (n : Nat) (I : Nat → DSt → Own → Prop) {δ : DSt} {O : Own} (h : I 0 δ O) (hc : ∀ j δ O, I j δ O → chk O)
    (step : ∀ j δ O nx, j < n → I j δ O → (∀ δ' O', I (j + 1) δ' O' → nx δ' O') → g (.int ((j : Nat) : Int)) δ O fun δ1 O1 => b { E with nx := nx, ct := nx, bk := E.nx } δ1 O1)
    (done : ∀ δ O, I n δ O → E.nx δ O) : forL g b chk E (rngN n) δ O := by
  rw [rngN_from]
  exact forL_rngM n I hc step done n 0 δ O (by omega) h
/-- every number of a range, its element told -/
theorem lc_rng {i n : Nat} {te : DE} {chk : Own → Prop} {δ : DSt} {R : List D → Own → Prop} {O : Own} (f : Nat → D) (hc : chk O) (hn : n ≤ 1000000) (he : ∀ j : Nat, j < n → ∀ Q : D → Own → Prop, Q (f j) O → te (δ.set i (some (.int ((j : Nat) : Int)))) O Q)
    (h : R ((List.range n).map f) O) : lcL (dgName i) dYes te chk δ R (rngN n) [] O := by
  refine lc_map (fun d => match d with | .int z => f z.toNat | _ => .non) hc (rngN n) [] (fun d hd Q q => ?_) (by rw [rngN_length]; simpa using hn) ?_
  · obtain ⟨j, hj, rfl⟩ := rngN_mem hd
    exact he j hj Q q
  · unfold rngN
    rw [List.map_map]
    exact h
/-- every item of a told list, its element told -/
theorem lc_list {α : Type} {i : Nat} {te : DE} {chk : Own → Prop} {δ : DSt} {R : List D → Own → Prop} {O : Own} (g : α → D) (f : α → D) (hc : chk O) : ∀ (l : List α) (acc : List D), (∀ a ∈ l, ∀ Q : D → Own → Prop, Q (f a) O → te (δ.set i (some (g a))) O Q) →
    acc.length + l.length ≤ 1000000 → R (acc ++ l.map f) O → lcL (dgName i) dYes te chk δ R (l.map g) acc O
  | [], acc, _, _, h => ⟨hc, by simpa using h⟩
  | a :: l, acc, he, hl, h => by
    refine ⟨hc, ?_⟩
    show te (δ.set i (some (g a))) O _
    rw [List.length_cons] at hl
    refine he a List.mem_cons_self _ ⟨by omega, lc_list g f hc l (acc ++ [f a]) (fun x hx => he x (List.mem_cons_of_mem _ hx)) (by rw [List.length_append, List.length_singleton]; omega) ?_⟩
    rw [List.append_assoc]
    exact h
end DL
namespace DL
open PySem L2
/-- == of two texts: the same; others -/
theorem strT {s : Str} {G : Bool → Prop} (h : PyData.strOk s = true) (g : G true) : (PyData.strOk s = true ∧ PyData.strOk s = true) ∧ ∀ k : Bool, k = decide (s = s) → G k := ⟨⟨h, h⟩, fun k e => by rw [e, decide_eq_true rfl]; exact g⟩
theorem strF {s t : Str} {G : Bool → Prop} (h : PyData.strOk s = true) (h2 : PyData.strOk t = true) (ne : ¬ s = t) (g : G false) : (PyData.strOk s = true ∧ PyData.strOk t = true) ∧ ∀ k : Bool, k = decide (s = t) → G k := ⟨⟨h, h2⟩, fun k e => by rw [e, decide_eq_false ne]; exact g⟩
end DL

/-! DL, part k: the rules whose reading names the written part, with that part told (needed inside comprehensions). -/
namespace DL
open PySem L2
section
variable {X : Cx} {K : PySem.W.Frag}
theorem pd_sliceK {e : Expr} {lo hi : Option Expr} {te : TE} {de : DE} {tl th : TO} {dl dh : DPt} {p2 pos : Pos} (he : PD X e te de) (hl : PDO X lo tl dl) (hh : PDO X hi th dh) (hK : X.K = K := by rfl) : PD X (.Subscript e (.Slice lo hi none p2) pos) (tSl (rSl2 K) te tl th) (dSl de dl dh) := by
  subst hK; exact pd_slice he hl hh
theorem pl_sliceK {e : Expr} {lo hi : Option Expr} {te : TE} {de : DE} {tl th : TO} {dl dh : DPt} {p2 pos : Pos} (he : PD X e te de) (hl : PDO X lo tl dl) (hh : PDO X hi th dh) (hK : X.K = K := by rfl) : PDL X (.Subscript e (.Slice lo hi none p2) pos) (tSl (rSlL K) te tl th) (dSlL de dl dh) := by
  subst hK; exact pl_slice he hl hh
theorem pl_revK {e : Expr} {te : TE} {de : DE} {k : Nat} {p1 p2 p3 pos : Pos} (he : PD X e te de) (hK : X.K = K := by rfl) : PDL X (.Subscript e (.Slice none none (some (.UnaryOp .USub (.Constant (.int 1) k p1) p2)) p3) pos) (tRevL K te) (dRev de) := by
  subst hK; exact pl_rev he
theorem pd_fldK {e : Expr} {te : TE} {de : DE} {f : Str} {C : Addr} {pos : Pos} (he : PD X e te de) (cl : Cls K C) (na : NoAttr K C f) (hK : X.K = K := by rfl) (hb : attributeBase e f X.env (eval e X.env) = eval e X.env := by rfl) : PD X (.Attribute e f pos) (tFld K te f) (dFld C de f) := by
  subst hK; exact pd_fld he cl na hb
theorem pl_listK {x : Str} {p pos : Pos} {e : Expr} {te : TE} {de : DE} (hg : Gl X x) (hm : X.mg x = none) (hv : bootBuiltins x = some (.type "list")) (he : PD X e te de) (hK : X.K = K := by rfl) (hn : x ≠ "__name__" := by decide) (hdb : (x == ("__debug__" : Str)) = false := by decide)
    (hs : starEach [e] X.env = (false, eval e X.env) :: starEach [] X.env := by rfl) (hpl : (backTo pos (starEach [] X.env)).any (·.1) = false := by rfl) : PDL X (.Call (.Name x p) [e] [] pos) (tCB (rListOf K) (tCons te tNil)) (dList de) := by
  subst hK; exact pl_list hg hm hv he hn hdb hs hpl
theorem pd_isiK {x y : Str} {p p2 pos : Pos} {e : Expr} {te : TE} {de : DE} (T : Ty) (n : String) (hk : ∀ t : Ty, kitB t.name n = some (isTy t T)) (hg : Gl X x) (hm : X.mg x = none) (hv : bootBuiltins x = some (.builtin "isinstance")) (he : PD X e te de)
    (hgy : Gl X y) (hmy : X.mg y = none) (hvy : bootBuiltins y = some (.type n)) (hK : X.K = K := by rfl) (hn : x ≠ "__name__" := by decide) (hdb : (x == ("__debug__" : Str)) = false := by decide) (hny : y ≠ "__name__" := by decide) (hdby : (y == ("__debug__" : Str)) = false := by decide)
    (hs : starEach [e, .Name y p2] X.env = (false, eval e X.env) :: starEach [.Name y p2] X.env := by rfl) (hs2 : starEach [.Name y p2] X.env = (false, eval (.Name y p2) X.env) :: starEach [] X.env := by rfl) (hpl : (backTo pos (starEach [.Name y p2] X.env)).any (·.1) = false := by rfl) :
    PD X (.Call (.Name x p) [e, .Name y p2] [] pos) (tCB (rIsi K) (tCons te (tCons (tC (.ty n)) tNil))) (dIsi T de) := by
  subst hK; exact pd_isi T n hk hg hm hv he hgy hmy hvy hn hdb hny hdby hs hs2 hpl
theorem pdg_tupK {es : List Expr} {k : Nat} {g : TGs} {dg : DTgs} {n : Nat} {pos : Pos} (hc : X.calm = true) (h : PDGs X es g dg) (hK : X.K = K := by rfl) (hn : (assignEach es X.env).length = n := by rfl) (hst : (assignEach es X.env).findIdx? (·.1) = none := by rfl) : PDG X (.Tuple es k pos) (gTup K n g) (dgTup n dg) := by
  subst hK; exact pdg_tup hc h hn hst
theorem pdi_listK {tg l : Expr} {tl : TE} {dl : DE} (h : PD X l tl dl) (hK : X.K = K := by rfl) : PDI X tg l (iList K tl) (diL dl) := by subst hK; exact pdi_list h
theorem pdi_tupK {tg l : Expr} {tl : TE} {dl : DE} (h : PD X l tl dl) (hK : X.K = K := by rfl) : PDI X tg l (iTup K tl) (diT dl) := by subst hK; exact pdi_tup h
theorem pdi_enumK {l : Expr} {tl : TE} {dl : DE} {p pos tpos : Pos} {elts : List Expr} {kk : Nat} (hg : Gl X "enumerate") (hm : X.mg "enumerate" = none) (h : PD X l tl dl) (hK : X.K = K := by rfl) (hs : starEach [l] X.env = [(false, eval l X.env)] := by rfl) :
    PDI X (.Tuple elts kk tpos) (.Call (.Name "enumerate" p) [l] [] pos) (iEnum K (tCons tl tNil)) (diEn dl) := by subst hK; exact pdi_enum hg hm h hs
theorem pdi_zipK {e e2 : Expr} {te te2 : TE} {de de2 : DE} {p pos tpos : Pos} {elts : List Expr} {kk : Nat} (hg : Gl X "zip") (hm : X.mg "zip" = none) (h : PD X e te de) (h2 : PD X e2 te2 de2) (hK : X.K = K := by rfl)
    (hs : starEach [e, e2] X.env = (false, eval e X.env) :: starEach [e2] X.env := by rfl) (hs2 : starEach [e2] X.env = (false, eval e2 X.env) :: starEach [] X.env := by rfl) (hpl : (backTo pos (starEach [e2] X.env)).any (·.1) = false := by rfl) :
    PDI X (.Tuple elts kk tpos) (.Call (.Name "zip" p) [e, e2] [] pos) (L2.iZip K (tCons te (tCons te2 tNil))) (diZip de de2) := by subst hK; exact pdi_zip hg hm h h2 hs hs2 hpl
theorem pdi_zipTK {e e2 : Expr} {te te2 : TE} {de de2 : DE} {p pos tpos : Pos} {elts : List Expr} {kk : Nat} (hg : Gl X "zip") (hm : X.mg "zip" = none) (h : PD X e te de) (h2 : PD X e2 te2 de2) (hK : X.K = K := by rfl)
    (hs : starEach [e, e2] X.env = (false, eval e X.env) :: starEach [e2] X.env := by rfl) (hs2 : starEach [e2] X.env = (false, eval e2 X.env) :: starEach [] X.env := by rfl) (hpl : (backTo pos (starEach [e2] X.env)).any (·.1) = false := by rfl) :
    PDI X (.Tuple elts kk tpos) (.Call (.Name "zip" p) [e, e2] [] pos) (ZM.iZipM K (tCons te (tCons te2 tNil))) (diZipT de de2) := by subst hK; exact pdi_zipT hg hm h h2 hs hs2 hpl
theorem pd_methK {P : Program} {w : World} {mg : Str → Option Value} {base : Heap} {k : Nat} {f C : Addr} {fd : FuncData} {ps : List Str} {S : DSp} {mn : Str} {pos apos : Pos} {e o : Expr} {es : List Expr} {t : TA} {da : DA} {to : TE} {dO : DE} {pl : Sem Bool} (ho : PD X o to dO) (c : Cls K C) (hm : Meth K C mn f) (G : FnD P w K mg base k f fd ps S) (hr : Room k X.A) (hb : Binds K fd ps []) (ha : PDA X (e :: es) t da)
    (hX : X.prog = P ∧ X.w = w ∧ X.K = K ∧ X.mg = mg ∧ X.base = base := by exact ⟨rfl, rfl, rfl, rfl, rfl⟩) (hst : starEach (e :: es) X.env = (false, eval e X.env) :: starEach es X.env := by rfl) (hpl : (backTo pos (starEach es X.env)).any (·.1) = false := by rfl)
    (ht : eval (.Call (.Attribute o mn apos) (e :: es) [] pos) X.env = (do
      let ov ← eval o X.env
      standAt apos.atName
      let (f, first) ← holding [ov] (getMethod ov mn pl)
      callWith pos f first (backTo pos (starEach (e :: es) X.env)) (backToKw pos (keywordEach [] X.env))) := by rfl) :
    PD X (.Call (.Attribute o mn apos) (e :: es) [] pos) (tMeth C mn (spD K S) [] E0 to t) (dMeth C mn S dO da) := by
  obtain ⟨rfl, rfl, rfl, rfl, rfl⟩ := hX
  exact pd_meth ho c hm G hr hb ha hst hpl ht
theorem pd_methK0 {P : Program} {w : World} {mg : Str → Option Value} {base : Heap} {k : Nat} {f C : Addr} {fd : FuncData} {ps : List Str} {S : DSp} {mn : Str} {pos apos : Pos} {o : Expr} {to : TE} {dO : DE} {pl : Sem Bool} (ho : PD X o to dO) (c : Cls K C) (hm : Meth K C mn f) (G : FnD P w K mg base k f fd ps S) (hr : Room k X.A) (hb : Binds K fd ps [])
    (hX : X.prog = P ∧ X.w = w ∧ X.K = K ∧ X.mg = mg ∧ X.base = base := by exact ⟨rfl, rfl, rfl, rfl, rfl⟩)
    (ht : eval (.Call (.Attribute o mn apos) [] [] pos) X.env = (do
      let ov ← eval o X.env
      standAt apos.atName
      let (f, first) ← holding [ov] (getMethod ov mn pl)
      callWith pos f first (backTo pos (starEach [] X.env)) (backToKw pos (keywordEach [] X.env))) := by rfl) :
    PD X (.Call (.Attribute o mn apos) [] [] pos) (tMeth C mn (spD K S) [] E0 to tNil) (dMeth C mn S dO dNil) := by
  obtain ⟨rfl, rfl, rfl, rfl, rfl⟩ := hX
  exact pd_meth0 ho c hm G hr hb ht
end
end DL
namespace DL
open PySem L2
/-- range with a step -/
def rngC (lo c : Int) (n : Nat) : List D := (List.range n).map fun i => D.int (lo + (i : Nat) * c)
theorem rngC_length (lo c : Int) (n : Nat) : (rngC lo c n).length = n := by simp [rngC]
theorem rngC_get {lo c : Int} {n i : Nat} {d : D} (h : (rngC lo c n)[i]? = some d) : d = .int (lo + (i : Nat) * c) := by
  have hi : i < n := by have := (List.getElem?_eq_some_iff.mp h).1; rw [rngC_length] at this; exact this
  unfold rngC at h
  rw [List.getElem?_map, List.getElem?_range hi] at h
  exact (Option.some.inj h).symm
theorem itd_rngC {K : PySem.W.Frag} {F : Hp} {m : List Addr} (lo c : Int) (n : Nat) : ItD K F m (Itc lo c n) (rngC lo c n) (fun _ => True) where
  go := fun i H F' m' O _ _ _ hi => by rw [rngC_length] at hi; exact hi
  stop := fun i H F' m' O _ _ _ hi => by rw [rngC_length] at hi; exact Nat.le_of_eq hi.symm
  yld := fun i H F' m' O x H' d _ h _ hd y => by
    obtain ⟨e1, e2⟩ := y
    subst e1 e2
    rw [rngC_get hd]
    exact ⟨F', .refl, h, .int _⟩
def diR3 (ta tb tc : DE) : DI := fun δ O R => ta δ O fun a O1 => tb δ O1 fun b O2 => tc δ O2 fun c O3 => match a, b, c with
  | .int i, .int j, .int k => ∃ n : Nat, RgC i j k n ∧ R (rngC i k n) (fun _ => True) O3
  | _, _, _ => False
theorem pdi_rng3 {X : Cx} {tg a b c : Expr} {ta tb tc : TE} {da db dc : DE} {p pos : Pos} (hg : Gl X "range") (hm : X.mg "range" = none) (ha : PD X a ta da) (hb : PD X b tb db) (hc : PD X c tc dc)
    (hs : starEach [a, b, c] X.env = (false, eval a X.env) :: starEach [b, c] X.env := by rfl) (hs2 : starEach [b, c] X.env = (false, eval b X.env) :: starEach [c] X.env := by rfl) (hs3 : starEach [c] X.env = (false, eval c X.env) :: starEach [] X.env := by rfl) (hpl : (backTo pos (starEach [b, c] X.env)).any (·.1) = false := by rfl) :
    PDI X tg (.Call (.Name "range" p) [a, b, c] [] pos) (iRng3 (tCons ta (tCons tb (tCons tc tNil)))) (diR3 da db dc) :=
  ⟨pi_range3 hg hm (pa_cons ha.pe (pa_cons hb.pe (pa_cons hc.pe pa_nil hs3) hs2) hs) hs hpl, fun σ H F m δ O R Q hh en q f => ha.sn.go σ H F m δ O _ _ hh en q fun v H1 F1 m1 a O1 s1 h1 r1 t1 =>
    hb.sn.go σ H1 F1 m1 δ O1 _ _ h1 (en.mono s1) t1 fun w H2 F2 m2 b O2 s2 h2 r2 t2 => hc.sn.go σ H2 F2 m2 δ O2 _ _ h2 (en.mono (s1.trans s2)) t2 fun u H3 F3 m3 c O3 s3 h3 r3 t3 => by
      cases r1 with
      | int i =>
        cases r2 with
        | int j =>
          cases r3 with
          | int k =>
            obtain ⟨n, hn, t⟩ := t3
            exact ⟨i, j, k, n, rfl, hn, f _ H3 F3 m3 _ _ O3 (s1.trans (s2.trans s3)) h3 (itd_rngC i k n) t⟩
          | _ => exact t3.elim
        | _ => cases r3 <;> exact t3.elim
      | _ => cases r2 <;> cases r3 <;> exact t3.elim⟩
end DL

/-! DL, part x: raise, calls that raise, try. -/
namespace DL
open PySem L2
/-- what is wanted of an exception of the class C -/
abbrev XW := Addr → DSt → Own → Prop
def FinX (K : PySem.W.Frag) (F H : Hp) (m : List Addr) (xw : XW) (W : WX) : Prop := ∀ C σ' H' F' m' δ' O', Stp F H m F' H' m' → Hol K F' H' m' O' → EnvR K F' m' σ' δ' → xw C δ' O' → W (.ref C) none σ' H'
theorem FinX.mono {K : PySem.W.Frag} {F F' H H' : Hp} {m m' : List Addr} {xw : XW} {W : WX} (f : FinX K F H m xw W) (s : Stp F H m F' H' m') : FinX K F' H' m' xw W := fun a b c d e g i s1 => f a b c d e g i (s.trans s1)
structure SndX (K : PySem.W.Frag) (W : WX) (te : TS) (t : XW → DS) : Prop where
  go : ∀ (σ : L2.St) (H F : Hp) (m : List Addr) (δ : DSt) (O : Own) (xw : XW) (E : DEnds) (D : Ends), Hol K F H m O → EnvR K F m σ δ → t xw E δ O → FinS K F H m E D → FinX K F H m xw W → te D σ H
structure PDX (X : Cx) (W : WX) (st : Stmt) (te : TS) (t : XW → DS) : Prop where
  pe : PS X st te
  sn : SndX X.K W te t
structure PDXs (X : Cx) (W : WX) (st : List Stmt) (te : TS) (t : XW → DS) : Prop where
  pe : PSs X st te
  sn : SndX X.K W te t
section
variable {K : PySem.W.Frag} {X : Cx} {W : WX} {pos : Pos} {st : Stmt} {rest : List Stmt} {t u : TS} {dt du : XW → DS}
theorem sndx_of {t : TS} {dt : DS} (h : SndS K t dt) : SndX K W t fun _ => dt := ⟨fun σ H F m δ O xw E D a b c d _ => h.go σ H F m δ O E D a b c d⟩
theorem pdx_of {t : TS} {dt : DS} (h : PDS X st t dt) : PDX X W st t fun _ => dt := ⟨h.pe, sndx_of h.sn⟩
theorem pdxs_of {st : List Stmt} {t : TS} {dt : DS} (h : PDSs X st t dt) : PDXs X W st t fun _ => dt := ⟨h.pe, sndx_of h.sn⟩
theorem pdxs_nil : PDXs X W [] tNext fun _ => dNext := pdxs_of pdss_nil
theorem pdxs_cons (h1 : PDX X W st t dt) (h2 : PDXs X W rest u du) : PDXs X W (st :: rest) (tSeq t u) fun xw => dSeq (dt xw) (du xw) := ⟨pss_cons h1.pe h2.pe, ⟨fun σ H F m δ O xw E D h e q f fx => h1.sn.go σ H F m δ O xw _ _ h e q
  ⟨fun σ1 H1 F1 m1 δ1 O1 s1 h1' e1 q1 => h2.sn.go σ1 H1 F1 m1 δ1 O1 xw E D h1' e1 q1 (f.mono s1) (fx.mono s1), f.rt, f.bk, f.ct⟩ fx⟩⟩
theorem pdxs_one (h1 : PDX X W st t dt) : PDXs X W [st] t dt := ⟨pss_one h1.pe, h1.sn⟩
theorem pdx_if {c : Expr} {a b : List Stmt} {tc : TT} {dc : DT} (hc : PDT X c tc dc) (ha : PDXs X W a t dt) (hb : PDXs X W b u du) : PDX X W (.If c a b pos) (tIfS tc t u) fun xw => dIfS dc (dt xw) (du xw) := ⟨ps_if hc.pe ha.pe hb.pe, ⟨fun σ H F m δ O xw E D h en q f fx =>
  hc.sn.go σ H F m δ O _ _ h en q fun k H1 F1 m1 O1 s1 h1 t1 => by
    cases k with
    | true => exact ha.sn.go σ H1 F1 m1 δ O1 xw E D h1 (en.mono s1) t1 (f.mono s1) (fx.mono s1)
    | false => exact hb.sn.go σ H1 F1 m1 δ O1 xw E D h1 (en.mono s1) t1 (f.mono s1) (fx.mono s1)⟩⟩
/-- an exception of one's own class flies -/
def dRaise (C : Addr) (xw : XW) : DS := fun _ δ O => xw C δ O
theorem pdx_raise {e : Expr} {C : Addr} (hc : X.calm = true) (tk : Takes X W) (he : PMk X e fun _ H Q => Q (.ref C) none H) : PDX X W (.Raise (some e) none pos) (fun _ σ H => W (.ref C) none σ H) fun xw => dRaise C xw :=
  ⟨ps_raise hc tk he, ⟨fun σ H F m δ O xw E D h en q f fx => fx C σ H F m δ O .refl h en q⟩⟩
theorem pdx_for {tg iter : Expr} {body : List Stmt} {wi : TI} {di : DI} {g : TG} {dg : DTg} (hp : PassesOwn (model X.prog X.w) X.A X.env X.xe) (hc : X.calm = true) (hi : PDI X tg iter wi di) (hg : PDG X tg g dg) (hb : PDXs X W body t dt)
    (hs : ∀ x, foldedSetIterable iter X.env x = pure x := by intro _; rfl) : PDX X W (.For tg iter body [] pos) (tFor wi g t) fun xw => dFor di dg (dt xw) := ⟨ps_for hp hc hi.pe hg.pe hb.pe hs, ⟨fun σ H F m δ O xw E D h en q f fx => by
  refine hi.sn σ H F m δ O _ _ h en q fun J H0 F0 m0 ds chk O0 s0 h0 jd q0 => ?_
  refine ⟨fun i n σ' H' => (n = ds.length - i ∧ i ≤ ds.length) ∧ ∃ F' m' δ' O', Stp F0 H0 m0 F' H' m' ∧ Hol X.K F' H' m' O' ∧ EnvR X.K F' m' σ' δ' ∧ forL dg (dt xw) chk E (ds.drop i) δ' O', ⟨ds.length, ⟨rfl, Nat.zero_le _⟩, F0, m0, δ, O0, .refl, h0, en.mono s0, q0⟩, ?_⟩
  rintro i n σ1 H1 ⟨⟨rfl, hle⟩, F1, m1, δ1, O1, s1, h1, e1, w1⟩
  cases dr : ds.drop i with
  | nil =>
    rw [dr] at w1
    exact .inl ⟨jd.stop i H1 F1 m1 O1 s1.sub h1 w1.1 (Nat.le_antisymm hle (List.drop_eq_nil_iff.mp dr)), f.nx σ1 H1 F1 m1 δ1 O1 (s0.trans s1) h1 e1 w1.2⟩
  | cons d r =>
    rw [dr] at w1
    obtain ⟨hl, hd, hr⟩ := drop_get dr
    refine .inr ⟨jd.go i H1 F1 m1 O1 s1.sub h1 w1.1 hl, fun σ' H' => ∃ F' m' δ' O', Stp F0 H0 m0 F' H' m' ∧ Hol X.K F' H' m' O' ∧ EnvR X.K F' m' σ' δ' ∧ forL dg (dt xw) chk E r δ' O', fun σ' H' ⟨F', m', δ', O', a, b, c, w⟩ => ⟨ds.length - (i + 1), by omega, ⟨rfl, hl⟩, F', m', δ', O', a, b, c, by rw [hr]; exact w⟩, fun x H2 y => ?_⟩
    obtain ⟨F2, s2, h2, r2⟩ := jd.yld i H1 F1 m1 O1 x H2 d s1.sub h1 w1.1 hd y
    refine hg.sn.go x d σ1 H2 F2 m1 δ1 O1 _ _ h2 (e1.mono s2) r2 w1.2 fun σ3 H3 F3 m3 δ3 O3 s3 h3 e3 t3 => ?_
    have up := s1.trans (s2.trans s3)
    exact hb.sn.go σ3 H3 F3 m3 δ3 O3 xw _ _ h3 e3 t3 ⟨fun σ' H' F' m' δ' O' s' h' e' q' => ⟨F', m', δ', O', up.trans s', h', e', q'⟩, f.rt.mono (s0.trans up), fun σ' H' F' m' δ' O' s' h' e' q' => f.nx σ' H' F' m' δ' O' (s0.trans (up.trans s')) h' e' q', fun σ' H' F' m' δ' O' s' h' e' q' => ⟨F', m', δ', O', up.trans s', h', e', q'⟩⟩ (fx.mono (s0.trans up))⟩⟩
end
/-! ### defs that raise -/
abbrev DSpX := List D → Own → (D → Own → Prop) → (Addr → Own → Prop) → Prop
def FinE (K : PySem.W.Frag) (F H : Hp) (m : List Addr) (RX : Addr → Own → Prop) (E : XK) : Prop := ∀ C H' F' m' O', Stp F H m F' H' m' → Hol K F' H' m' O' → RX C O' → E (.ref C) none H'
def spX (K : PySem.W.Frag) (S : DSpX) : Sp := fun vs H Q E => ∃ F m ds O R RX, RepL K F m vs ds ∧ Hol K F H m O ∧ S ds O R RX ∧ Fin K F H m R Q ∧ FinE K F H m RX E
abbrev FnX (P : Program) (w : World) (K : PySem.W.Frag) (mg : Str → Option Value) (base : Heap) (k : Nat) (f : Addr) (fd : FuncData) (ps : List Str) (S : DSpX) : Prop := FnOk P w K mg base (L2.CX P w) k f fd ps (spX K S)
section
variable {P : Program} {w : World} {K : PySem.W.Frag} {mg : Str → Option Value} {base : Heap}
theorem fnX_of {x qual : Str} {st : Stmt} {f : Addr} {fd : FuncData} {N ps : List Str} {k : Nat} {S : DSpX} (F : Fun K x qual st f fd) (Sc : FnScope N ps (defScope st)) (len : ∀ ds O R RX, S ds O R RX → ds.length = ps.length)
    (hbody : ∀ (cdv : Value) (A : Around) (outer : List Env) (s : Shared) (H : Hp) (E : XK), Room k (A.deeper (PyProof.Rows.envOfC qual (defScope st) s.heap.objs.size f cdv)) →
      ∃ ts t, PDXs (cxOf (L2.CX P w) P w K mg base N qual (defScope st) f cdv A outer s H E) (fun cls d _ H' => E cls d H') (defBody st) ts t ∧ ∀ ds O R RX, S ds O R RX → t (fun C _ O' => RX C O') { nx := fun _ O' => R .non O', rt := R } (startD N ds) O) : FnX P w K mg base (k + 1) f fd ps S := by
  refine F.okX Sc (fun vs H Q E h => ?_) fun cdv A outer s H vs Q E hr hsp => ?_
  · obtain ⟨F', m, ds, O, R, RX, r, _, q, _⟩ := h
    rw [r.length]
    exact len ds O R RX q
  · obtain ⟨F', m, ds, O, R, RX, r, hh, q, fn, fe⟩ := hsp
    obtain ⟨ts, t, d, g⟩ := hbody cdv A outer s H E hr
    refine ⟨ts, d.pe, d.sn.go _ H F' m _ O _ _ _ hh (env_start N r) (g ds O R RX q) ⟨fun σ' H' F2 m2 δ' O' s2 h2 _ q2 => fn .non H' F2 m2 .non O' s2 h2 .non q2, fn, fun _ _ _ _ _ _ _ _ _ z => z.elim, fun _ _ _ _ _ _ _ _ _ z => z.elim⟩ fun C σ' H' F2 m2 δ' O' s2 h2 _ q2 => fe C H' F2 m2 O' s2 h2 q2⟩
end
/-! ### calls that raise -/
def dCallX (S : DSpX) (da : DA) (xw : XW) : DE := fun δ O R => da δ O fun ds O1 => S ds O1 R fun C O' => xw C δ O'
section
variable {X : Cx} {W : WX} {k : Nat} {f : Addr} {fd : FuncData} {ps : List Str} {S : DSpX} {x : Str} {p pos pos' : Pos} {e : Expr} {es : List Expr} {t : TA} {da : DA}
structure SndEX (K : PySem.W.Frag) (W : WX) (te : TE) (t : XW → DE) : Prop where
  go : ∀ (σ : L2.St) (H F : Hp) (m : List Addr) (δ : DSt) (O : Own) (xw : XW) (R : D → Own → Prop) (Q : VK), Hol K F H m O → EnvR K F m σ δ → t xw δ O R → Fin K F H m R Q → FinX K F H m xw W → te σ H Q
structure PDE (X : Cx) (W : WX) (e : Expr) (te : TE) (t : XW → DE) : Prop where
  pe : PE X e te
  sn : SndEX X.K W te t
theorem pde_call (tk : Takes X W) (G : FnX X.prog X.w X.K X.mg X.base k f fd ps S) (hr : Room k X.A) (hg : Gl X x) (hm : X.mg x = some (.ref f)) (hk : PySem.W.keepIn X.K (.ref f) = true) (hb : Binds X.K fd ps [])
    (ha : PDA X (e :: es) t da) (hdb : (x == ("__debug__" : Str)) = false := by decide) (he : starEach (e :: es) X.env = (false, eval e X.env) :: starEach es X.env := by rfl) (hpl : (backTo pos (starEach es X.env)).any (·.1) = false := by rfl) :
    PDE X W (.Call (.Name x p) (e :: es) [] pos) (tCallS (spX X.K S) (WE W) t) fun xw => dCallX S da xw := ⟨pe_callS G hr hg hm hk hb (fun σ => passAt tk σ) ha.pe hdb he hpl, ⟨fun σ H F m δ O xw R Q h en q fn fx =>
  ha.sn.go σ H F m δ O _ _ h en q fun vs H1 F1 m1 ds O1 s1 h1 r1 t1 => ⟨F1, m1, ds, O1, R, _, r1, h1, t1, fn.mono s1, fun C H' F' m' O' s' h' q' => fx C σ H' F' m' δ O' (s1.trans s') h' (en.mono (s1.trans s')) q'⟩⟩⟩
theorem pdx_expr {te : TE} {de : XW → DE} (he : PDE X W e te de) (hs : swapsWith e none pos.line X.env = pure false := by rfl) : PDX X W (.Expr e pos) (tDrop te) fun xw => dDrop (de xw) := ⟨ps_expr he.pe hs, ⟨fun σ H F m δ O xw E D h en t f fx => he.sn.go σ H F m δ O xw _ _ h en t (fun v H1 F1 m1 d O1 s1 h1 r1 t1 =>
  f.nx σ H1 F1 m1 δ O1 s1 h1 (en.mono s1) t1) fx⟩⟩
theorem pdx_ret {te : TE} {de : XW → DE} (he : PDE X W e te de) : PDX X W (.Return (some e) pos) (tRet te) fun xw => dRet (de xw) := ⟨ps_ret he.pe, ⟨fun σ H F m δ O xw E D h en t f fx => he.sn.go σ H F m δ O xw _ _ h en t f.rt fx⟩⟩
end
/-! ### .. that change nothing -/
theorem FinE.pure {K : PySem.W.Frag} {F H : Hp} {m : List Addr} {O : Own} {RX : Addr → Own → Prop} {E : XK} (hh : Hol K F H m O) (f : FinE K F H m RX E) : FinE K F H m (fun C O' => O'.take O.length = O ∧ RX C O) E := fun C H2 F2 m2 O2 s h q => by
  obtain ⟨e, q⟩ := q
  have l : m.length ≤ O.length := Nat.le_of_eq hh.len.symm
  obtain ⟨s', h'⟩ := give_up (n := O.length) s h l (fun k o z => hh.hd (by rw [← e]; exact z))
  rw [e] at h'
  exact f C H2 _ _ O s' h' q
section
variable {P : Program} {w : World} {K : PySem.W.Frag} {mg : Str → Option Value} {base : Heap}
theorem fnX_pure {x qual : Str} {st : Stmt} {f : Addr} {fd : FuncData} {N ps : List Str} {k : Nat} {S : DSpX} (F : Fun K x qual st f fd) (Sc : FnScope N ps (defScope st)) (len : ∀ ds O R RX, S ds O R RX → ds.length = ps.length)
    (hbody : ∀ (cdv : Value) (A : Around) (outer : List Env) (s : Shared) (H : Hp) (E : XK), Room k (A.deeper (PyProof.Rows.envOfC qual (defScope st) s.heap.objs.size f cdv)) →
      ∃ ts t, PDXs (cxOf (L2.CX P w) P w K mg base N qual (defScope st) f cdv A outer s H E) (fun cls d _ H' => E cls d H') (defBody st) ts t ∧ ∀ ds O R RX, S ds O R RX → t (fun C _ O' => O'.take O.length = O ∧ RX C O) { nx := fun _ O' => Pure O R .non O', rt := Pure O R } (startD N ds) O) : FnX P w K mg base (k + 1) f fd ps S := by
  refine F.okX Sc (fun vs H Q E h => ?_) fun cdv A outer s H vs Q E hr hsp => ?_
  · obtain ⟨F', m, ds, O, R, RX, r, _, q, _⟩ := h
    rw [r.length]
    exact len ds O R RX q
  · obtain ⟨F', m, ds, O, R, RX, r, hh, q, fn, fe⟩ := hsp
    obtain ⟨ts, t, d, g⟩ := hbody cdv A outer s H E hr
    have fp := fn.pure hh
    have fq := fe.pure hh
    refine ⟨ts, d.pe, d.sn.go _ H F' m _ O _ _ _ hh (env_start N r) (g ds O R RX q) ⟨fun σ' H' F2 m2 δ' O' s2 h2 _ q2 => fp .non H' F2 m2 .non O' s2 h2 .non q2, fp, fun _ _ _ _ _ _ _ _ _ z => z.elim, fun _ _ _ _ _ _ _ _ _ z => z.elim⟩ fun C σ' H' F2 m2 δ' O' s2 h2 _ q2 => fq C H' F2 m2 O' s2 h2 q2⟩
end
/-! ### isinstance of the caught exception -/
def dIsE (i : Nat) (a : Addr) (b : Bool) : DE := fun δ O R => δ[i]? = some (some (.ref a)) ∧ R (.bl b) O
section
variable {X : Cx} {a D : Addr} {oe : Obj} {pn : List (Addr × Obj)}
theorem snd_isE {K : PySem.W.Frag} {i : Nat} {c : V} {cv : Value} {b : Bool} (hcv : ∀ u, RelV c u → u = cv) (hk : PySem.W.kitOne K (.ref D) cv = some b) : Snd K (tCB (rIsE K D a) (tCons (tVar i) (tCons (tC c) tNil))) (dIsE i a b) := ⟨fun σ H F m δ O R Q h en t fn => by
  obtain ⟨e, q⟩ := t
  obtain ⟨v, e1, r⟩ := en.at_ i _ e
  cases r
  exact ⟨_, e1, c, cv, b, rfl, hcv, hk, fn.here h (.bl b) q⟩⟩
theorem pd_isE {x n y : Str} {c2 : Addr} {i : Nat} {b : Bool} {p p1 p2 pos : Pos} (C : ExcC X.K D) (hz : Zc (.ref D) none oe) (hf : ∃ vs, oe.data = .fields vs) (hk : PySem.W.kitOne X.K (.ref D) (.ref c2) = some b) (hg : Gl X x) (hm : X.mg x = none) (hv : bootBuiltins x = some (.builtin "isinstance"))
    (hN : X.N[i]? = some n) (hvis : Vis X.env.scope n) (hgy : Gl X y) (hmy : X.mg y = some (.ref c2)) (hn : x ≠ "__name__" := by decide) (hdb : (x == ("__debug__" : Str)) = false := by decide) (hdn : (n == ("__debug__" : Str)) = false := by decide) (hcd : (n == ("__classdict__" : Str)) = false := by decide) (hdby : (y == ("__debug__" : Str)) = false := by decide)
    (hs : starEach [.Name n p1, .Name y p2] X.env = (false, eval (.Name n p1) X.env) :: starEach [.Name y p2] X.env := by rfl) (hs2 : starEach [.Name y p2] X.env = (false, eval (.Name y p2) X.env) :: starEach [] X.env := by rfl) (hpl : (backTo pos (starEach [.Name y p2] X.env)).any (·.1) = false := by rfl) :
    PD (X.suite a ((a, oe) :: pn)) (.Call (.Name x p) [.Name n p1, .Name y p2] [] pos) (tCB (rIsE X.K D a) (tCons (tVar i) (tCons (tC (.ref c2)) tNil))) (dIsE i a b) :=
  ⟨pe_callB (X := X.suite a ((a, oe) :: pn)) (call_isE C hz hf) hg hm hv (pa_cons (pe_var hN hvis hdn hcd) (pa_cons (pe_glob (v := .ref c2) hgy hmy rfl hdby) pa_nil hs2) hs) hn hdb hs hpl, snd_isE (fun u e => e) hk⟩
theorem pd_isEB {x n y : Str} {T : String} {i : Nat} {b : Bool} {p p1 p2 pos : Pos} (C : ExcC X.K D) (hz : Zc (.ref D) none oe) (hf : ∃ vs, oe.data = .fields vs) (hk : PySem.W.kitOne X.K (.ref D) (.type T) = some b) (hg : Gl X x) (hm : X.mg x = none) (hv : bootBuiltins x = some (.builtin "isinstance"))
    (hN : X.N[i]? = some n) (hvis : Vis X.env.scope n) (hgy : Gl X y) (hmy : X.mg y = none) (hvy : bootBuiltins y = some (.type T)) (hn : x ≠ "__name__" := by decide) (hdb : (x == ("__debug__" : Str)) = false := by decide) (hdn : (n == ("__debug__" : Str)) = false := by decide) (hcd : (n == ("__classdict__" : Str)) = false := by decide) (hny : y ≠ "__name__" := by decide) (hdby : (y == ("__debug__" : Str)) = false := by decide)
    (hs : starEach [.Name n p1, .Name y p2] X.env = (false, eval (.Name n p1) X.env) :: starEach [.Name y p2] X.env := by rfl) (hs2 : starEach [.Name y p2] X.env = (false, eval (.Name y p2) X.env) :: starEach [] X.env := by rfl) (hpl : (backTo pos (starEach [.Name y p2] X.env)).any (·.1) = false := by rfl) :
    PD (X.suite a ((a, oe) :: pn)) (.Call (.Name x p) [.Name n p1, .Name y p2] [] pos) (tCB (rIsE X.K D a) (tCons (tVar i) (tCons (tC (.ty T)) tNil))) (dIsE i a b) :=
  ⟨pe_callB (X := X.suite a ((a, oe) :: pn)) (call_isE C hz hf) hg hm hv (pa_cons (pe_var hN hvis hdn hcd) (pa_cons (pe_bltn hgy hmy hvy rfl hny hdby) pa_nil hs2) hs) hn hdb hs hpl, snd_isE (fun u e => e) hk⟩
end
/-! ### try .. except c as n -/
/-- the body of a try -/
structure PDB (X : Cx) (body : List Stmt) (tb : WX → TS) (dt : XW → DS) : Prop where
  pe : ∀ (W : WX) (pn : List (Addr × Obj)) (xe : Value → Shared → Prop), Takes (X.tr pn xe) W → PassesOwn (model X.prog X.w) X.A X.env xe → PSs (X.tr pn xe) body (tb W)
  sn : ∀ W : WX, SndX X.K W (tb W) dt
/-- the suite of an except clause, the exception of the class C -/
structure PDH (X : Cx) (C : Addr) (suite : List Stmt) (ts : Addr → TS) (dts : Addr → DS) : Prop where
  go : ∀ (a : Addr) (oe : Obj) (pn : List (Addr × Obj)), Zc (.ref C) none oe → (∃ vs, oe.data = .fields vs) → PDSs (X.suite a ((a, oe) :: pn)) suite (ts a) (dts a)
theorem PDH.sn {X : Cx} {C : Addr} {suite : List Stmt} {ts : Addr → TS} {dts : Addr → DS} (h : PDH X C suite ts dts) (a : Addr) : SndS X.K (ts a) (dts a) :=
  (h.go a { cls := .ref C, dict := none, data := .fields #[] } [] ⟨rfl, rfl⟩ ⟨_, rfl⟩).sn
def outD (i : Nat) (E : DEnds) : DEnds := { nx := fun δ O => E.nx (δ.set i none) O, rt := E.rt, bk := fun δ O => E.bk (δ.set i none) O, ct := fun δ O => E.ct (δ.set i none) O }
def dTry (i : Nat) (Cs : List Addr) (dt : XW → DS) (dts : Addr → Addr → DS) : DS := fun E δ O => dt (fun C δ' O' => C ∈ Cs ∧ ∀ a, dts C a (outD i E) (δ'.set i (some (.ref a))) O') E δ O
def tHand (Cs : List Addr) (ts : Addr → Addr → TS) (a : Addr) (cls : Value) (d : Option Addr) : TS := fun D σ H => ∃ C, cls = .ref C ∧ d = none ∧ C ∈ Cs ∧ ts C a D σ H
theorem pds_try {X : Cx} {x n : Str} {c : Value} {i : Nat} {body suite : List Stmt} {b₀ : Stmt} {np pos pos' : Pos} {tb : WX → TS} {dt : XW → DS} {ts : Addr → Addr → TS} {dts : Addr → Addr → DS} (Cs : List Addr)
    (hs : X.stack = X.env :: X.outer) (hf : X.env.frame = some X.env.locals) (hN : X.N.Nodup) (hi : X.N[i]? = some n) (hln : X.env.kindOf n = some .local) (hc : Names X x c)
    (hb : PDB X body tb dt) (hcl : ∀ C ∈ Cs, PySem.W.exmOne X.K (.ref C) c = some true) (hsu : ∀ C ∈ Cs, PDH X C (b₀ :: suite) (ts C) (dts C)) :
    PDS X (.Try body [.ExceptHandler (some (.Name x np)) (some n) (b₀ :: suite) pos'] [] [] pos) (fun D σ H => tb (wAs X.K c i (tHand Cs ts) (fun _ _ _ _ => False) D) D σ H) (dTry i Cs dt dts) := by
  refine ⟨ps_try_as hs hf hN hi hln hc takes0 hb.pe fun a oe cls d pn hz hfd => ⟨fun pins s σ H D I t => ?_⟩, ⟨fun σ H F m δ O E D h en t fn => ?_⟩⟩
  · obtain ⟨C, rfl, rfl, hC, t⟩ := t
    exact ((hsu C hC).go a oe pn hz hfd).pe.run pins s σ H D I t
  · refine (hb.sn _).go σ H F m δ O _ E D h en t fn fun C σ' H' F' m' δ' O' s' h' e' q => ?_
    obtain ⟨hC, q⟩ := q
    refine ⟨true, hcl C hC, fun _ a ha => ⟨C, rfl, rfl, hC, ?_⟩, fun z => nomatch z⟩
    refine ((hsu C hC).sn a).go _ H' F' m' _ O' _ _ h' (e'.set i (.ref a)) (q a) ⟨fun σ2 H2 F2 m2 δ2 O2 s2 h2 e2 q2 => fn.nx _ H2 F2 m2 _ O2 (s'.trans s2) h2 (e2.set0 i) q2, fn.rt.mono s', fun σ2 H2 F2 m2 δ2 O2 s2 h2 e2 q2 => fn.bk _ H2 F2 m2 _ O2 (s'.trans s2) h2 (e2.set0 i) q2, fun σ2 H2 F2 m2 δ2 O2 s2 h2 e2 q2 => fn.ct _ H2 F2 m2 _ O2 (s'.trans s2) h2 (e2.set0 i) q2⟩
section
variable {X : Cx} {k : Nat} {f : Addr} {fd : FuncData} {ps : List Str} {S : DSpX} {x : Str} {p pos pos' : Pos} {e : Expr} {es : List Expr} {t : TA} {da : DA}
theorem sndex_call {K : PySem.W.Frag} {W : WX} (ha : SndA K t da) : SndEX K W (tCallS (spX K S) (WE W) t) fun xw => dCallX S da xw := ⟨fun σ H F m δ O xw R Q h en q fn fx =>
  ha.go σ H F m δ O _ _ h en q fun vs H1 F1 m1 ds O1 s1 h1 r1 t1 => ⟨F1, m1, ds, O1, R, _, r1, h1, t1, fn.mono s1, fun C H' F' m' O' s' h' q' => fx C σ H' F' m' δ O' (s1.trans s') h' (en.mono (s1.trans s')) q'⟩⟩
/-- try: f(..) -/
theorem pdb_expr (G : FnX X.prog X.w X.K X.mg X.base k f fd ps S) (hr : Room k X.A) (hg : Gl X x) (hm : X.mg x = some (.ref f)) (hk : PySem.W.keepIn X.K (.ref f) = true) (hb : Binds X.K fd ps [])
    (ha : ∀ (pn : List (Addr × Obj)) (xe : Value → Shared → Prop), PDA (X.tr pn xe) (e :: es) t da) (hdb : (x == ("__debug__" : Str)) = false := by decide) (he : starEach (e :: es) X.env = (false, eval e X.env) :: starEach es X.env := by rfl) (hpl : (backTo pos (starEach es X.env)).any (·.1) = false := by rfl)
    (hs : swapsWith (.Call (.Name x p) (e :: es) [] pos) none pos'.line X.env = pure false := by rfl) :
    PDB X [.Expr (.Call (.Name x p) (e :: es) [] pos) pos'] (fun W => tDrop (tCallS (spX X.K S) (WE W) t)) fun xw => dDrop (dCallX S da xw) :=
  ⟨fun W pn xe tk hp => pss_one (ps_expr (pe_callS (X := X.tr pn xe) G hr hg hm hk hb (fun σ => passAt tk σ) (ha pn xe).pe hdb he hpl) hs), fun W => ⟨fun σ H F m δ O xw E D h en t f fx => (sndex_call (ha [] fun _ _ => False).sn).go σ H F m δ O xw _ _ h en t (fun v H1 F1 m1 d O1 s1 h1 r1 t1 =>
    f.nx σ H1 F1 m1 δ O1 s1 h1 (en.mono s1) t1) fx⟩⟩
end
/-! ### what is asked of the classes -/
/-- a class that is raised -/
structure XC (K : PySem.W.Frag) (C : Addr) : Prop where
  ex : PySem.W.excIn K C [.type "ValueError", .type "Exception", .type "BaseException", .type "object"] "ValueError.__new__" = true
  kp : PySem.W.keepIn K (.ref C) = true
  sub : PySem.W.subIn K (.ref C) (.type "BaseException") = some true
  ty : PySem.W.typeIn K (.ref C) = some (.type "type")
  self : PySem.W.subIn K (.ref C) (.ref C) = some true
  ec : ExcC K C
/-- a class that is named -/
structure XN (K : PySem.W.Frag) (C : Addr) : Prop where
  ic : PySem.W.isClsIn K C = true
  ty : PySem.W.typeIn K (.ref C) = some (.type "type")
  sub : PySem.W.subIn K (.ref C) (.type "BaseException") = some true
section
variable {K : PySem.W.Frag} {D C : Addr}
theorem kitCls_own {t : Value} (n : XN K C) : PySem.W.kitCls K t (.ref C) = PySem.W.subIn K t (.ref C) := by
  have h2 : (PySem.W.clsIn K C).isSome = true := n.ic
  have e2 : ((PySem.W.clsIn K C).isSome && PySem.W.typeIn K (.ref C) == some (.type "type")) = true := by rw [h2, n.ty] <;> rfl
  show (if ((PySem.W.clsIn K C).isSome && PySem.W.typeIn K (.ref C) == some (.type "type")) = true then PySem.W.subIn K t (.ref C) else none) = _
  rw [if_pos e2]
theorem exm_own (n : XN K C) (s : PySem.W.subIn K (.ref D) (.ref C) = some true) : PySem.W.exmOne K (.ref D) (.ref C) = some true := by
  have e1 : (PySem.W.subIn K (.ref C) (.type "BaseException") == some true) = true := by rw [n.sub] <;> rfl
  show (if (PySem.W.subIn K (.ref C) (.type "BaseException") == some true) = true then PySem.W.kitCls K (.ref D) (.ref C) else none) = _
  rw [if_pos e1, kitCls_own n]
  exact s
theorem kit_t (n : XN K C) (s : PySem.W.subIn K (.ref D) (.ref C) = some true) : PySem.W.kitOne K (.ref D) (.ref C) = some true := by
  unfold PySem.W.kitOne
  split
  · rfl
  · rw [kitCls_own n]; exact s
theorem kit_f (n : XN K C) (self : PySem.W.subIn K (.ref D) (.ref D) = some true) (s : PySem.W.subIn K (.ref D) (.ref C) = some false) : PySem.W.kitOne K (.ref D) (.ref C) = some false := by
  unfold PySem.W.kitOne
  split
  · rename_i h
    have e : D = C := by simpa using h
    rw [e] at self
    rw [e, self] at s
    cases s
  · rw [kitCls_own n]; exact s
theorem kit_ve (s : PySem.W.subIn K (.ref D) (.type "ValueError") = some true) : PySem.W.kitOne K (.ref D) (.type "ValueError") = some true := by
  unfold PySem.W.kitOne
  split
  · rfl
  · show (if PySem.W.kitMeta "ValueError" = true then PySem.W.subIn K (.ref D) (.type "ValueError") else none) = _
    rw [if_pos (by decide)]
    exact s
end
theorem pds_try1 {X : Cx} {x n : Str} {c : Value} {i : Nat} {body suite : List Stmt} {b₀ : Stmt} {np pos pos' : Pos} {tb : WX → TS} {dt : XW → DS} {ts : Addr → TS} {dts : Addr → DS} (C : Addr)
    (hs : X.stack = X.env :: X.outer) (hf : X.env.frame = some X.env.locals) (hN : X.N.Nodup) (hi : X.N[i]? = some n) (hln : X.env.kindOf n = some .local) (hc : Names X x c)
    (hb : PDB X body tb dt) (hcl : PySem.W.exmOne X.K (.ref C) c = some true) (hsu : PDH X C (b₀ :: suite) ts dts) :
    PDS X (.Try body [.ExceptHandler (some (.Name x np)) (some n) (b₀ :: suite) pos'] [] [] pos) (fun D σ H => tb (wAs X.K c i (tHand [C] fun _ => ts) (fun _ _ _ _ => False) D) D σ H) (dTry i [C] dt fun _ => dts) :=
  pds_try [C] hs hf hN hi hln hc hb (fun C' h => by rw [List.mem_singleton.mp h]; exact hcl) fun C' h => by rw [List.mem_singleton.mp h]; exact hsu
end DL

/-! DL, part y: a text times 0 or 1, a try that returns a tuple, a try with two classes. -/
namespace DL
open PySem L2
/-! ### a text times 0 or 1 -/
def rStrMul : R2 := fun x y H Q => ∃ z : Str, x = .str z ∧ ((y = .int 1 ∧ Q (.str z) H) ∨ (y = .int 0 ∧ Q (.str Str.empty) H))
theorem op_strMul {X : Cx} : OpR X (binaryOp .Mult) rStrMul := by
  intro pins s σ H x y v u Q I rx ry h
  obtain ⟨z, rfl, h⟩ := h
  obtain ⟨t, rfl⟩ := rx
  rcases h with ⟨rfl, q⟩ | ⟨rfl, q⟩
  · obtain ⟨t', rfl⟩ := ry
    exact PySem.P.mul_str (by decide) (fun _ z => by cases z) (fun _ z => by cases z) ⟨.str z, H, I, ⟨_, rfl⟩, q⟩
  · obtain ⟨t', rfl⟩ := ry
    exact PySem.P.mul_str_none (by decide) (by decide) ⟨.str Str.empty, H, I.tok _, ⟨_, rfl⟩, q⟩
def strMulD : DOp := fun O a b R => match a, b with
  | .str s, .int 1 => R (.str s) O
  | .str _, .int 0 => R (.str Str.empty) O
  | _, _ => False
theorem sndo_strMul {K : PySem.W.Frag} : SndO K rStrMul strMulD := ⟨fun H F m O x y a b R Q h ra rb t fn => by
  unfold strMulD at t
  split at t
  · cases ra; cases rb
    exact ⟨_, rfl, .inl ⟨rfl, fn.here h (.str _) t⟩⟩
  · cases ra; cases rb
    exact ⟨_, rfl, .inr ⟨rfl, fn.here h (.str _) t⟩⟩
  · exact t.elim⟩
theorem str_app_empty (s : Str) : s ++ Str.empty = s := by
  cases s
  show Str.mk _ = _
  congr 1
theorem str_empty_app (s : Str) : Str.empty ++ s = s := by
  cases s
  show Str.mk _ = _
  congr 1
  exact Array.empty_append
/-! ### parts that may raise -/
structure SndAX (K : PySem.W.Frag) (W : WX) (te : TA) (t : XW → DA) : Prop where
  go : ∀ (σ : L2.St) (H F : Hp) (m : List Addr) (δ : DSt) (O : Own) (xw : XW) (R : List D → Own → Prop) (Q : List V → Hp → Prop), Hol K F H m O → EnvR K F m σ δ → t xw δ O R → FinA K F H m R Q → FinX K F H m xw W → te σ H Q
section
variable {K : PySem.W.Frag} {W : WX} {te : TE} {t : TA} {de : XW → DE} {da : XW → DA}
theorem sndex_of {d : DE} (h : Snd K te d) : SndEX K W te fun _ => d := ⟨fun σ H F m δ O xw R Q a b c e _ => h.go σ H F m δ O R Q a b c e⟩
theorem sndax_nil : SndAX K W tNil fun _ => dNil := ⟨fun σ H F m δ O xw R Q h en t fn _ => fn [] H F m [] O .refl h .nil t⟩
theorem sndax_cons (h1 : SndEX K W te de) (h2 : SndAX K W t da) : SndAX K W (tCons te t) fun xw => dCons (de xw) (da xw) := ⟨fun σ H F m δ O xw R Q h en t fn fx => h1.go σ H F m δ O xw _ _ h en t (fun x H1 F1 m1 p O1 s1 h1 r1 t1 =>
  h2.go σ H1 F1 m1 δ O1 xw _ _ h1 (en.mono s1) t1 (fun vs H2 F2 m2 ds O2 s2 h2 r2 t2 => fn (x :: vs) H2 F2 m2 (p :: ds) O2 (s1.trans s2) h2 (.cons (r1.mono s2) r2) t2) (fx.mono s1)) fx⟩
theorem sndex_tup (h : SndAX K W t da) : SndEX K W (tTup t) fun xw => dTup (da xw) := ⟨fun σ H F m δ O xw R Q hh en hr fn fx => h.go σ H F m δ O xw _ _ hh en hr (fun vs H1 F1 m1 ds O1 s1 h1 r1 t1 =>
  ⟨sz5 (by rw [r1.length]; have := (fewL_ok t1).1; omega), fun p n => (fn.mono s1).tup h1 r1 (fewL_ok t1).2 p n⟩) fx⟩
theorem sndx_ret (h : SndEX K W te de) : SndX K W (tRet te) fun xw => dRet (de xw) := ⟨fun σ H F m δ O xw E D hh en t f fx => h.go σ H F m δ O xw _ _ hh en t f.rt fx⟩
end
section
variable {X : Cx} {k : Nat} {f : Addr} {fd : FuncData} {ps : List Str} {S : DSpX} {x : Str} {p pos pos' pos2 : Pos} {x1 : Nat} {e e0 : Expr} {es : List Expr} {te : TE} {de : DE} {t : TA} {da : DA}
/-- try: return (a, f(..)) -/
theorem pdb_retTup (G : FnX X.prog X.w X.K X.mg X.base k f fd ps S) (h0 : ∀ (pn : List (Addr × Obj)) (xe : Value → Shared → Prop), PD (X.tr pn xe) e0 te de) (hr : Room k X.A) (hg : Gl X x) (hm : X.mg x = some (.ref f)) (hk : PySem.W.keepIn X.K (.ref f) = true) (hb : Binds X.K fd ps [])
    (ha : ∀ (pn : List (Addr × Obj)) (xe : Value → Shared → Prop), PDA (X.tr pn xe) (e :: es) t da) (hdb : (x == ("__debug__" : Str)) = false := by decide) (he : starEach (e :: es) X.env = (false, eval e X.env) :: starEach es X.env := by rfl) (hpl : (backTo pos (starEach es X.env)).any (·.1) = false := by rfl)
    (h1 : starEach [e0, .Call (.Name x p) (e :: es) [] pos] X.env = (false, eval e0 X.env) :: starEach [.Call (.Name x p) (e :: es) [] pos] X.env := by rfl) (h2 : starEach [.Call (.Name x p) (e :: es) [] pos] X.env = (false, eval (.Call (.Name x p) (e :: es) [] pos) X.env) :: starEach [] X.env := by rfl) :
    PDB X [.Return (some (.Tuple [e0, .Call (.Name x p) (e :: es) [] pos] x1 pos2)) pos'] (fun W => tRet (tTup (tCons te (tCons (tCallS (spX X.K S) (WE W) t) tNil)))) fun xw => dRet (dTup (dCons de (dCons (dCallX S da xw) dNil))) :=
  ⟨fun W pn xe tk hp => pss_one (ps_ret (pe_tup (pa_cons (h0 pn xe).pe (pa_cons (pe_callS (X := X.tr pn xe) G hr hg hm hk hb (fun σ => passAt tk σ) (ha pn xe).pe hdb he hpl) pa_nil h2) h1))), fun W =>
    sndx_ret (sndex_tup (sndax_cons (sndex_of (h0 [] fun _ _ => False).sn) (sndax_cons (sndex_call (ha [] fun _ _ => False).sn) sndax_nil)))⟩
end
/-! ### two classes -/
def dTry2 (i : Nat) (c1 c2 : Addr) (dt : XW → DS) (d1 d2 : Addr → DS) : DS := fun E δ O => dt (fun C δ' O' => (C = c1 ∧ ∀ a, d1 a (outD i E) (δ'.set i (some (.ref a))) O') ∨ (C = c2 ∧ ∀ a, d2 a (outD i E) (δ'.set i (some (.ref a))) O')) E δ O
def tHand2 (c1 c2 : Addr) (t1 t2 : Addr → TS) (a : Addr) (cls : Value) (d : Option Addr) : TS := fun D σ H => d = none ∧ ((cls = .ref c1 ∧ t1 a D σ H) ∨ (cls = .ref c2 ∧ t2 a D σ H))
theorem pds_try2 {X : Cx} {x n : Str} {c : Value} {i : Nat} {c1 c2 : Addr} {body suite : List Stmt} {b₀ : Stmt} {np pos pos' : Pos} {tb : WX → TS} {dt : XW → DS} {t1 t2 : Addr → TS} {d1 d2 : Addr → DS}
    (hs : X.stack = X.env :: X.outer) (hf : X.env.frame = some X.env.locals) (hN : X.N.Nodup) (hi : X.N[i]? = some n) (hln : X.env.kindOf n = some .local) (hc : Names X x c)
    (hb : PDB X body tb dt) (e1 : PySem.W.exmOne X.K (.ref c1) c = some true) (e2 : PySem.W.exmOne X.K (.ref c2) c = some true) (h1 : PDH X c1 (b₀ :: suite) t1 d1) (h2 : PDH X c2 (b₀ :: suite) t2 d2) :
    PDS X (.Try body [.ExceptHandler (some (.Name x np)) (some n) (b₀ :: suite) pos'] [] [] pos) (fun D σ H => tb (wAs X.K c i (tHand2 c1 c2 t1 t2) (fun _ _ _ _ => False) D) D σ H) (dTry2 i c1 c2 dt d1 d2) := by
  refine ⟨ps_try_as hs hf hN hi hln hc takes0 hb.pe fun a oe cls d pn hz hfd => ⟨fun pins s σ H D I t => ?_⟩, ⟨fun σ H F m δ O E D h en t fn => ?_⟩⟩
  · obtain ⟨rfl, t⟩ := t
    rcases t with ⟨rfl, t⟩ | ⟨rfl, t⟩
    · exact (h1.go a oe pn hz hfd).pe.run pins s σ H D I t
    · exact (h2.go a oe pn hz hfd).pe.run pins s σ H D I t
  · refine (hb.sn _).go σ H F m δ O _ E D h en t fn fun C σ' H' F' m' δ' O' s' h' e' q => ?_
    rcases q with ⟨rfl, q⟩ | ⟨rfl, q⟩
    · refine ⟨true, e1, fun _ a ha => ⟨rfl, .inl ⟨rfl, ?_⟩⟩, fun z => nomatch z⟩
      refine (h1.sn a).go _ H' F' m' _ O' _ _ h' (e'.set i (.ref a)) (q a) ⟨fun σ2 H2 F2 m2 δ2 O2 s2 h2 e2 q2 => fn.nx _ H2 F2 m2 _ O2 (s'.trans s2) h2 (e2.set0 i) q2, fn.rt.mono s', fun σ2 H2 F2 m2 δ2 O2 s2 h2 e2 q2 => fn.bk _ H2 F2 m2 _ O2 (s'.trans s2) h2 (e2.set0 i) q2, fun σ2 H2 F2 m2 δ2 O2 s2 h2 e2 q2 => fn.ct _ H2 F2 m2 _ O2 (s'.trans s2) h2 (e2.set0 i) q2⟩
    · refine ⟨true, e2, fun _ a ha => ⟨rfl, .inr ⟨rfl, ?_⟩⟩, fun z => nomatch z⟩
      refine (h2.sn a).go _ H' F' m' _ O' _ _ h' (e'.set i (.ref a)) (q a) ⟨fun σ2 H2 F2 m2 δ2 O2 s2 h2 e2 q2 => fn.nx _ H2 F2 m2 _ O2 (s'.trans s2) h2 (e2.set0 i) q2, fn.rt.mono s', fun σ2 H2 F2 m2 δ2 O2 s2 h2 e2 q2 => fn.bk _ H2 F2 m2 _ O2 (s'.trans s2) h2 (e2.set0 i) q2, fun σ2 H2 F2 m2 δ2 O2 s2 h2 e2 q2 => fn.ct _ H2 F2 m2 _ O2 (s'.trans s2) h2 (e2.set0 i) q2⟩
end DL

/-! DL, part w: {} , a dict against a text, a tuple times one, try: C(..). -/
namespace DL
open PySem L2 PyProof.Rows
/-! ### a dict against a text -/
section
open PySem.SeqAt
theorem dict_no_str (l : Addr) (es : Array DictEntry) (ep : Nat) (z : Str) (u : Tok) : Meets (Builtin.«dict.__eq__» ⟨[.ref l, .str z u], []⟩) (fun _ R s => s.heap.get? l = some { cls := .type "dict", dict := none, data := .dict es ep, slots := #[] } ∧ R (.ok (.ret .notImplemented)) s) :=
  .of_wp fun prog w A R s h => by
    obtain ⟨hp, g, d, tk, os⟩ := s
    obtain ⟨hl, h⟩ := h
    have f1 := PySem.F.sub_str_dict
    wp_walk using wpAny_load hl
    exact ⟨_, rfl, h⟩
theorem str_no_dict (l : Addr) (es : Array DictEntry) (ep : Nat) (z : Str) (u : Tok) : Meets (Builtin.«str.__eq__» ⟨[.str z u, .ref l], []⟩) (fun _ R s => s.heap.get? l = some { cls := .type "dict", dict := none, data := .dict es ep, slots := #[] } ∧ R (.ok (.ret .notImplemented)) s) :=
  .of_wp fun prog w A R s h => by
    obtain ⟨hp, g, d, tk, os⟩ := s
    obtain ⟨hl, h⟩ := h
    wp_walk using wpAny_load hl
    exact ⟨_, rfl, h⟩
end
def rDictStr : R2 := fun x y H Q => ∃ (a : Addr) (kvs : List (Key × V)) (z : Str), x = .ref a ∧ y = .str z ∧ H a = some (.dK kvs) ∧ Q (.bl false) H
theorem op_dictStr {X : Cx} (hu : X.A.units < cLine) : OpR X (compareOp .Eq) rDictStr := by
  intro pins s σ H x y v u Q I rx ry h
  obtain ⟨a, kvs, z, rfl, rfl, ea, q⟩ := h
  cases (show v = Value.ref a from rx)
  obtain ⟨t, rfl⟩ := ry
  obtain ⟨_, _, va, _, da⟩ := (show ObjOk X.prog X.w H s.heap a (.dK kvs) from I.hok a _ ea)
  have ty := da.typeIs (s := s)
  obtain ⟨⟨cls, dd, data, sl⟩, es, ep, ho, ⟨h1, h2, h3⟩, hd, -⟩ := da
  simp only at h1 h2 h3 hd
  subst h1 h2 h3 hd
  exact PySem.SeqAt.rc_eq_decline_or (k := false) ty (typeIs_str s z t) (by decide) PySem.F.sub_str_dict PySem.F.slot_dict_eq PySem.F.slot_str_eq_refl
    (fun _ w => call_meets PySem.F.slot_dict_eq ty PySem.F.entry_dict_eq (PySem.F.args_dict_eq_2 _ _) (dict_no_str a es ep z t) ⟨ho, w⟩)
    (fun _ w => call_meets PySem.F.slot_str_eq_refl (typeIs_str s z t) PySem.F.entry_str_eq (PySem.F.args_str_eq_2 _ _) (str_no_dict a es ep z t) ⟨ho, w⟩)
    (fun _ w => wpAny_of_eq (rfl : isSame (.ref a) (.str z t) = pure false) w) (.inr hu) ⟨.bl false, H, I, rfl, q⟩
/-- ==, of a dict and a text too -/
@[irreducible] def eqTagD : DOp := fun O a b R => match a, b with
  | .own h, .str _ => (∃ gs, O[h]? = some (some (.dic gs))) ∧ R (.bl false) O
  | a, b => eqD O a b R
def rEqTag (K : PySem.W.Frag) : R2 := fun x y H Q => rEqD K x y H Q ∨ rDictStr x y H Q
theorem op_eqTag {X : Cx} (h64 : X.A.units + 64 < cLine) (hu : X.A.units < cLine) : OpR X (compareOp .Eq) (rEqTag X.K) := (op_eqD h64).or (op_dictStr hu)
theorem sndo_eqTag {K : PySem.W.Frag} : SndO K (rEqTag K) eqTagD := ⟨fun H F m O x y a b R Q h ra rb t fn => by
  unfold eqTagD at t
  split at t
  · obtain ⟨⟨gs, e⟩, t⟩ := t
    cases ra with
    | own q =>
      cases rb
      obtain ⟨_, ho, e1, e2⟩ := h.at_ e q
      cases e2 with
      | dic r => exact .inr ⟨_, _, _, rfl, rfl, e1, fn.here h (.bl _) t⟩
  · exact .inl (sndo_eq.go H F m O x y _ _ R Q h ra rb t fn)⟩
/-! ### {} -/
def dEmpty : DE := fun _ O R => R (.own O.length) (O ++ [some (.dic [])])
theorem pd_empty {X : Cx} {pos : Pos} : PD X (.Dict [] [] pos) tDNewK dEmpty := ⟨pe_dnewK, ⟨fun σ H F m δ O R Q h en t fn p n => by
  obtain ⟨s, h2⟩ := h.new (ho := .dK []) (o := .dic []) n (.dic .nil)
  refine fn _ _ _ _ _ _ s h2 (.own ?_) t
  rw [h.len, List.getElem?_append_right (Nat.le_refl _), Nat.sub_self]
  rfl⟩⟩
/-! ### a tuple times one -/
theorem tup_one (l : Addr) (items : Array Value) (n : Nat) (dd : Option Addr) (sl : Array (Option Value)) (u : Tok) :
    Meets (Builtin.«tuple.__mul__» ⟨[.ref l, .int 1 u], []⟩) (fun _ R s => s.heap.get? l = some { cls := .type "tuple", dict := dd, data := .seq items n, slots := sl } ∧ R (.ok (.ret (Value.ref l))) s) :=
  .of_wp fun prog w A R s h => by
    obtain ⟨hp, g, d, tk, os⟩ := s
    obtain ⟨hl, h⟩ := h
    have f1 := AutoSeq1.idx_int
    have f2 := PySem.F.sub_tuple_tuple
    wp_walk using wpAny_loadPart' hl
    exact ⟨_, rfl, h⟩
def rRepT1 (K : PySem.W.Frag) : R2 := fun x y H Q => ∃ (l : Addr) (xs : List V), x = .ref l ∧ y = .int 1 ∧ SqT K H l xs ∧ Q (.ref l) H
theorem op_repT1 {X : Cx} : OpR X (binaryOp .Mult) (rRepT1 X.K) := by
  intro pins s σ H x y v u Q I rx ry h
  obtain ⟨l, xs, rfl, rfl, hT, q⟩ := h
  cases rx
  obtain ⟨t, rfl⟩ := ry
  obtain ⟨its, r, ⟨⟨cls, dd, data, sl⟩, ho, hc, n, hd⟩, hs⟩ := I.tuple hT
  simp only at hc hd
  subst hc hd
  have ty : s.TypeIs (.ref l) "tuple" := ⟨_, ho, rfl⟩
  exact wpAny_binaryOp_repeat_ref (T := "tuple") (U := "int") (by decide) ty (fun s' => typeIs_int s' 1 t) noFill_tuple_mul PySem.F.fills_int_mul PySem.F.slot_int_rmul repeat_tuple PySem.F.slot_int_index.lookup
    (call_meets PySem.F.slot_int_rmul (typeIs_int s 1 t) PySem.F.entry_int_rmul (PySem.F.args_int_rmul_2 _ _) (int_rmul_tuple 1 t l its.toArray n dd sl)
      ⟨ho, rfl, ty, call_meets PySem.F.slot_tuple_mul ty PySem.F.entry_tuple_mul (PySem.F.args_tuple_mul_2 _ _) (tup_one l its.toArray n dd sl t) ⟨ho, ⟨.ref l, H, I, rfl, q⟩⟩⟩)
/-- *, of a tuple and one too -/
@[irreducible] def mulTD : DOp := fun O a b R => match a, b with
  | .tup xs, .int 1 => R (.tup xs) O
  | a, b => mulD O a b R
def rMulT (K : PySem.W.Frag) : R2 := fun x y H Q => rMul3 K x y H Q ∨ rRepT1 K x y H Q
theorem op_mulT {X : Cx} : OpR X (binaryOp .Mult) (rMulT X.K) := op_mul3.or op_repT1
theorem sndo_mulT {K : PySem.W.Frag} : SndO K (rMulT K) mulTD := ⟨fun H F m O x y a b R Q h ra rb t fn => by
  unfold mulTD at t
  split at t
  · cases rb
    have ra' := ra
    obtain ⟨p, us, rfl, hp, r1⟩ := tup_rep h ra
    exact .inr ⟨p, us, rfl, rfl, SqT.of hp, fn.here h ra' t⟩
  · exact .inl (sndo_mul.go H F m O x y _ _ R Q h ra rb t fn)⟩
theorem mulT_one {O : Own} {xs : List D} {R : D → Own → Prop} (g : R (.tup xs) O) : mulTD O (.tup xs) (.int 1) R := by
  unfold mulTD
  exact g
theorem mulT_tup {O : Own} {xs : List D} {k : Nat} {R : D → Own → Prop} (ne : xs ≠ []) (h2 : 2 ≤ k) (hk : k ≤ 1000) (hl : xs.length ≤ 1000) (g : R (.tup (List.replicate k xs).flatten) O) : mulTD O (.tup xs) (.int (k : Nat)) R := by
  unfold mulTD
  split
  · rename_i e1 e2
    have e3 : ((k : Nat) : Int) = 1 := by injection e2
    omega
  · refine ⟨⟨ne, by omega, by omega, hl⟩, ?_⟩
    rw [Int.toNat_natCast]
    exact g
/-! ### try: C(..) -/
def tMakeS (C : Addr) (sp : Sp) (E : L2.St → XK) (t : TA) : TE := fun σ H Q => t σ H fun vs H1 => ∀ x dx, H1 x = none → H1 dx = none → dx ≠ x → sp (.ref x :: vs) (L2.upd (L2.upd H1 dx (.own x)) x (.ins C dx [])) (fun v H2 => v = .non ∧ Q (.ref x) H2) (E σ)
section
variable {X : Cx} {k : Nat} {C fi : Addr} {fd : FuncData} {ps : List Str} {sp : Sp} {W : WX} {x : Str} {p pos pos' : Pos} {e : Expr} {es : List Expr} {t : TA} {da : DA} {S : DSpX}
theorem made_run (M : Mk X.K C fi) (G : FnOk X.prog X.w X.K X.mg X.base (L2.CX X.prog X.w) k fi fd ps sp) (room : Room (k + 1) X.A) (bind : Binds X.K fd ps []) (tk : Takes X W) {pins : List (Addr × Obj)} {σ : L2.St} {H : Hp} {s : Shared} {Q : VK} {us : List Value} {vs : List V}
    (inv : Inv X pins σ H s) (vals : Vals vs us) (want : ∀ x dx, H x = none → H dx = none → dx ≠ x → sp (.ref x :: vs) (L2.upd (L2.upd H dx (.own x)) x (.ins C dx [])) (fun v H2 => v = .non ∧ Q (.ref x) H2) (WE W σ)) :
    wpAny (model X.prog X.w) X.A (call (.ref C) us) (EP X pins σ Q) X.xe s := by
  have free : ∀ n, s.heap.objs.size ≤ n → H n = none := fun n hn => inv.hok.fresh hn
  have w1 := want (s.heap.objs.size + 1) s.heap.objs.size (free _ (Nat.le_succ _)) (free _ (Nat.le_refl _)) (Nat.ne_of_lt (Nat.lt_succ_self _))
  have inv2 := Inv.made (C := C) inv
  have vals2 : Vals (V.ref (s.heap.objs.size + 1) :: vs) (Value.ref (s.heap.objs.size + 1) :: us) := .cons rfl vals
  have many : (Value.ref (s.heap.objs.size + 1) :: us).length = ps.length := by
    rw [← vals2.length]
    exact G.len _ _ _ _ w1
  have bound := bind _ (Value.ref (s.heap.objs.size + 1) :: us) inv2.kIn (by rw [List.append_nil]; exact many)
  rw [List.append_nil] at bound
  have goes := G.run _ X.stack _ _ ⟨Value.ref (s.heap.objs.size + 1) :: us, []⟩ _ _ _ (WE W σ) (room.make C us []) (inv2.env0.make C us []) bound vals2 w1
  refine wpAny_call (make_map (f := fi) inv.kIn M.makes M.init (beq_iff_eq.mp M.fn) (codeAny_mono goes ?_))
  rintro (e | fl) s' z
  · exact passAt tk σ pins _ _ e s' inv2 z
  · cases fl with
    | ret u =>
      obtain ⟨v, H', inv3, rv, ev, q⟩ := inv2.after z
      cases ev
      exact ⟨rv, V.ref (s.heap.objs.size + 1), H', inv3, rfl, q⟩
    | next => exact z.elim
    | brk => exact z.elim
    | cont => exact z.elim
theorem pe_makeS (M : Mk X.K C fi) (G : FnOk X.prog X.w X.K X.mg X.base (L2.CX X.prog X.w) k fi fd ps sp) (room : Room (k + 1) X.A) (hg : Gl X x) (hm : X.mg x = some (.ref C)) (bind : Binds X.K fd ps []) (tk : Takes X W)
    (ha : PA X (e :: es) t) (hdb : (x == ("__debug__" : Str)) = false := by decide) (he : starEach (e :: es) X.env = (false, eval e X.env) :: starEach es X.env := by rfl) (hpl : (backTo pos (starEach es X.env)).any (·.1) = false := by rfl) :
    PE X (.Call (.Name x p) (e :: es) [] pos) (tMakeS C sp (WE W) t) := ⟨fun pins s σ H Q inv w =>
  wpAny_Call_Name_kw (ld_glob inv hg hm (PySem.W.callWith_K (h₀ := X.base) inv.ok.mod.kin M.kp (thn (ha.run pos pins s σ H _ inv w) fun us s1 ⟨vs, H1, inv1, r, q⟩ => ⟨inv1.kIn, made_run M G room bind tk inv1 r q⟩) he hpl) hdb)⟩
def dMakeX (C : Addr) (S : DSpX) (da : DA) (xw : XW) : DE := fun δ O R => da δ O fun ds O1 => S (.own O1.length :: ds) (O1 ++ [some (.ins C [])]) (fun d O2 => d = .non ∧ R (.own O1.length) O2) fun D O2 => xw D δ O2
theorem sndex_make {K : PySem.W.Frag} (ha : SndA K t da) : SndEX K W (tMakeS C (spX K S) (WE W) t) fun xw => dMakeX C S da xw := ⟨fun σ H F m δ O xw R Q h en q fn fx => ha.go σ H F m δ O _ _ h en q fun vs H1 F1 m1 ds O1 s1 h1 r1 t1 => by
  intro x dx nx ndx ne
  obtain ⟨s2, h2⟩ := h1.frz (p := dx) (ho := .own x) ndx
  have nx' : L2.upd H1 dx (.own x) x = none := by rw [upd_ne (Ne.symm ne)]; exact nx
  obtain ⟨s3, h3⟩ := h2.new (p := x) (ho := .ins C dx []) (o := .ins C []) nx' (.ins .nil)
  have up := s2.trans s3
  have at1 : (m1 ++ [x])[O1.length]? = some x := by
    rw [h1.len, List.getElem?_append_right (Nat.le_refl _), Nat.sub_self]
    rfl
  refine ⟨_, _, _, _, _, _, .cons (.own at1) (r1.mono up), h3, t1, fun v H4 F4 m4 d O4 s4 h4 r4 t4 => ?_, fun D H4 F4 m4 O4 s4 h4 t4 => fx D σ H4 F4 m4 δ O4 (s1.trans (up.trans s4)) h4 (en.mono (s1.trans (up.trans s4))) t4⟩
  obtain ⟨ed, t4⟩ := t4
  subst ed
  cases r4
  exact ⟨rfl, fn (.ref x) H4 F4 m4 _ O4 (s1.trans (up.trans s4)) h4 (.own (pre_get s4.pre at1)) t4⟩⟩
theorem pdb_make (M : Mk X.K C fi) (G : FnX X.prog X.w X.K X.mg X.base k fi fd ps S) (hr : Room (k + 1) X.A) (hg : Gl X x) (hm : X.mg x = some (.ref C)) (hb : Binds X.K fd ps [])
    (ha : ∀ (pn : List (Addr × Obj)) (xe : Value → Shared → Prop), PDA (X.tr pn xe) (e :: es) t da) (hdb : (x == ("__debug__" : Str)) = false := by decide) (he : starEach (e :: es) X.env = (false, eval e X.env) :: starEach es X.env := by rfl) (hpl : (backTo pos (starEach es X.env)).any (·.1) = false := by rfl)
    (hs : swapsWith (.Call (.Name x p) (e :: es) [] pos) none pos'.line X.env = pure false := by rfl) :
    PDB X [.Expr (.Call (.Name x p) (e :: es) [] pos) pos'] (fun W => tDrop (tMakeS C (spX X.K S) (WE W) t)) fun xw => dDrop (dMakeX C S da xw) :=
  ⟨fun W pn xe tk hp => pss_one (ps_expr (pe_makeS (X := X.tr pn xe) M G hr hg hm hb tk (ha pn xe).pe hdb he hpl) hs), fun W => ⟨fun σ H F m δ O xw E D h en t f fx => (sndex_make (ha [] fun _ _ => False).sn).go σ H F m δ O xw _ _ h en t (fun v H1 F1 m1 d O1 s1 h1 r1 t1 =>
    f.nx σ H1 F1 m1 δ O1 s1 h1 (en.mono s1) t1) fx⟩⟩
end
end DL

/-! What is wanted of a law. -/
namespace DL
open PySem L2
def S_law : DSp := fun ds O R => ∃ ns : List Int, ds = [.scr ns] ∧ ns.length ≤ 63 ∧ R (.bl true) O
theorem len_law (ds : List D) (O : Own) (R : D → Own → Prop) (h : S_law ds O R) : ds.length = 1 := by obtain ⟨_, rfl, _⟩ := h; rfl
end DL

/-! DL, part m: min of a list of alike data. -/
namespace DL
open PySem L2
def rMinAlike (K : PySem.W.Frag) : List V → Hp → VK → Prop := fun xs H Q => ∃ (a : Addr) (ys : List V) (x : PyData) (ps : List PyData), xs = [.ref a] ∧ SqL K H a ys ∧ DpAll K H ys (x :: ps) ∧ PySem.W.AlikeAll (x :: ps) ∧ PyData.depthAll (x :: ps) ≤ 60 ∧ (∀ p ∈ x :: ps, p.canLay0 = true) ∧
  ∀ (i : Nat) (v : V) (p : PyData), ys[i]? = some v → (x :: ps)[i]? = some p → p = PySem.W.minD x ps → Q v H
theorem dpAll_at {K : PySem.W.Frag} {H : Hp} : ∀ {ys : List V} {ps : List PyData} {i : Nat} {v : V}, DpAll K H ys ps → ys[i]? = some v → ∃ p, ps[i]? = some p ∧ Dp K H v p
  | _, _, i, v, .nil, e => by simp at e
  | _, _, 0, v, .cons h _, e => by simp at e; subst e; exact ⟨_, rfl, h⟩
  | _, _, i + 1, v, .cons _ t, e => by
    obtain ⟨p, e1, e2⟩ := dpAll_at (i := i) t (by simpa using e)
    exact ⟨p, by simpa using e1, e2⟩
theorem vals_at {ys : List V} {us : List Value} (r : Vals ys us) {i : Nat} {u : Value} (e : us[i]? = some u) : ∃ v, ys[i]? = some v ∧ RelV v u := by
  have hl := r.length
  have hi : i < us.length := (List.getElem?_eq_some_iff.mp e).1
  have g : ys[i]? = some ys[i] := List.getElem?_eq_getElem (by omega)
  obtain ⟨u2, e2, r2⟩ := r.get g
  rw [e] at e2
  cases e2
  exact ⟨_, g, r2⟩
theorem cr_minAlike {X : Cx} (hc : X.calm = true) (hu : X.A.units + 64 < cLine) : CallR X (.builtin "min") (rMinAlike X.K) := by
  intro pins s σ H vs us Q I r h
  obtain ⟨a, ys, x, ps, rfl, hs, hd, al, dep, lay, q⟩ := h
  obtain ⟨its, rv, hl, _⟩ := I.list hs
  rw [Vals.ref1 r]
  obtain ⟨as, hr⟩ := Dp.readsAll I (x :: ps) ys its hd rv
  refine PySem.W.min_list_data (I.ok.hd hc) hl.isList (by simpa using hr) al (by omega) fun i v h' tk bs hv rd hk => ?_
  have hv' : its[i]? = some v := by simpa using hv
  obtain ⟨y, hy, ry⟩ := vals_at rv hv'
  obtain ⟨p, hp, dp⟩ := dpAll_at hd hy
  obtain ⟨as2, rp⟩ := Dp.reads I p y v dp ry
  have e : p = PySem.W.minD x ps := (Reads.unique (PySem.W.reads_keeps hk rp) _ _ rd).1
  exact ⟨y, H, I.kept hk, ry, q i y p hy hp e⟩
/-- min over data: one of the items, whose datum is the least -/
def minTD : DCl := fun O ds R => match ds with
  | [d] => oK (asL O d) fun xs => ∃ (x : PyData) (ps : List PyData), pyL (pyD O 39) xs = some (x :: ps) ∧ PySem.W.AlikeAll (x :: ps) ∧ ∀ (i : Nat) (e : D) (p : PyData), xs[i]? = some e → (x :: ps)[i]? = some p → p = PySem.W.minD x ps → R e O
  | _ => False
theorem pyL_all {O : Own} {F H : Hp} {m : List Addr} {K : PySem.W.Frag} (h : Hol K F H m O) {n : Nat} : ∀ {ds : List D} {vs : List V} {ps : List PyData}, RepL K F m vs ds → pyL (pyD O n) ds = some ps → DpAll K H vs ps ∧ (∀ p ∈ ps, p.canLay0 = true) ∧ PyData.depthAll ps ≤ n
  | [], _, _, .nil, e => by
    cases e
    exact ⟨.nil, (fun p z => by cases z), (by simp only [PyData.depthAll]; omega)⟩
  | d :: ds, _, _, .cons r t, e => by
    obtain ⟨q, qs, e1, e2, rfl⟩ := pyL_cons e
    obtain ⟨a1, a2, a3⟩ := pyD_dp h n d _ q r e1
    obtain ⟨b1, b2, b3⟩ := pyL_all h t e2
    refine ⟨.cons a1 b1, fun p hp => ?_, ?_⟩
    · rcases List.mem_cons.mp hp with z | z
      · rw [z]; exact a2
      · exact b2 p z
    · simp only [PyData.depthAll]
      omega
theorem sndc_minT {K : PySem.W.Frag} : SndC K (rMinAlike K) minTD := ⟨fun H F m O vs ds R Q h r t fn => by
  unfold minTD at t
  split at t
  · obtain ⟨xs, e0, t⟩ := t.ex
    obtain ⟨x, ps, e1, al, t⟩ := t
    cases r with
    | cons r0 rt =>
      cases rt
      obtain ⟨p, us, rfl, hp, rr⟩ := asL_rep h r0 e0
      obtain ⟨d1, d2, d3⟩ := pyL_all h rr e1
      refine ⟨p, us, x, ps, rfl, SqL.of hp, d1, al, by omega, d2, fun i v q hv hq e => ?_⟩
      obtain ⟨d, hd, rd⟩ := rr.get' hv
      exact fn.here h rd (t i d q hd hq e)
  · exact t.elim⟩
end DL

/-! Sums: what value, opposite and put_in compute. -/
namespace DL
open PySem L2
local macro_rules | `(tactic| walk_at "w") => `(tactic| conv => whnf)
abbrev Sm := List Int × Int
def encI (ns : List Int) : List D := ns.map D.int
def encS (s : Sm) : D := .tup [.tup (encI s.1), .int s.2]
def dot : List Int → List Int → Int
  | a :: as, b :: bs => a * b + dot as bs
  | _, _ => 0
def valS (s : Sm) (fs : List Int) : Int := s.2 + dot s.1 fs
def oppS (s : Sm) : Sm := (s.1.map (0 - ·), 1 - s.2)
def addk (k : Int) (acc c : List Int) : List Int := List.zipWith (fun a x => a + k * x) acc c
def putAcc : List Int → List Sm → List Int → Int → Sm
  | k :: ks, b :: bs, acc, m => putAcc ks bs (addk k acc b.1) (m + k * b.2)
  | _, _, acc, m => (acc, m)
def putS (n : Nat) (s : Sm) (bs : List Sm) : Sm := putAcc s.1 bs (List.replicate n 0) s.2
def BdL (n : Nat) (l : List Int) : Prop := ∀ x ∈ l, Bd n x
theorem BdL.head {n : Nat} {x : Int} {l : List Int} (h : BdL n (x :: l)) : Bd n x := h x List.mem_cons_self
theorem BdL.tail {n : Nat} {x : Int} {l : List Int} (h : BdL n (x :: l)) : BdL n l := fun y hy => h y (List.mem_cons_of_mem _ hy)
theorem encI_get {ns : List Int} {i : Nat} {x : Int} (h : ns[i]? = some x) : (encI ns)[i]? = some (.int x) := by unfold encI; rw [List.getElem?_map, h]; rfl
theorem encI_length (ns : List Int) : (encI ns).length = ns.length := List.length_map ..
theorem encI_hd {n : Nat} (ns : List Int) : HdL n (encI ns) := HdL.ints ns
theorem encS_hd {n : Nat} (s : Sm) : Hd n (encS s) := .tup (.cons (.tup (encI_hd _)) (.cons (.int _) .nil))
/-! ### value -/
def N_value : List Str := ["one", "filling", "found", "number", "held"]
def R_value : DS :=
  (dSeq (dAsg (dOp ixD (dVar 0) (dC (.int 1))) (dgName 2))
  (dSeq (dFor (diZipT (dOp ixD (dVar 0) (dC (.int 0))) (dVar 1)) (dgTup 2 (dgCons (dgName 3) (dgCons (dgName 4) dgNil))) (dAsg (dOp addD (dVar 2) (dOp mulD (dVar 3) (dVar 4))) (dgName 2)))
  (dRet (dVar 2))))
def S_value : DSp := fun ds O R => ∃ (s : Sm) (fs : List Int) (d2 : D), ds = [encS s, d2] ∧ asL O d2 = some (encI fs) ∧ s.1.length = fs.length ∧ BdL 3000 s.1 ∧ BdL 3000 fs ∧ R (.int (valS s fs)) O
theorem len_value (ds : List D) (O : Own) (R : D → Own → Prop) (h : S_value ds O R) : ds.length = 2 := by obtain ⟨_, _, _, rfl, _⟩ := h; rfl
theorem loop_value {chk : Own → Prop} {E : DEnds} {O : Own} {d1 d2 : Option D} (hc : chk O) : ∀ (ns fs : List Int) (m : Int) (a b : Option D), BdL 3000 ns → BdL 3000 fs → (∀ a b, E.nx [d1, d2, some (.int (m + dot ns fs)), a, b] O) →
    forL (dgTup 2 (dgCons (dgName 3) (dgCons (dgName 4) dgNil))) (dAsg (dOp addD (dVar 2) (dOp mulD (dVar 3) (dVar 4))) (dgName 2)) chk E (zipD (encI ns) (encI fs)) [d1, d2, some (.int m), a, b] O
  | [], fs, m, a, b, _, _, h => ⟨hc, by have := h a b; simpa [dot] using this⟩
  | n :: ns, [], m, a, b, _, _, h => ⟨hc, by have := h a b; simpa [dot] using this⟩
  | n :: ns, f :: fs, m, a, b, b1, b2, h => by
    refine ⟨hc, ?_⟩
    walk_at "w"
    refine ⟨.inl ⟨b1.head, b2.head⟩, ?_⟩
    refine loop_value hc ns fs (m + n * f) _ _ b1.tail b2.tail fun a b => ?_
    rw [Int.add_assoc]
    exact h a b
theorem sem_value (ds : List D) (O : Own) (R : D → Own → Prop) (h : S_value ds O R) : R_value { nx := fun _ O' => Pure O R .non O', rt := Pure O R } (startD N_value ds) O := by
  obtain ⟨s, fs, d2, rfl, h2, hl, b1, b2, h⟩ := h
  walk_at "w"
  rw [h2]
  refine ⟨by simpa [encI] using hl, ?_⟩
  exact loop_value h2 s.1 fs s.2 none none b1 b2 fun a b => Pure.same (.int _) h
/-! ### opposite -/
def N_opposite : List Str := ["one", "number"]
def R_opposite : DS :=
  (dRet (dTup (dCons (dCall1 tupleD (dCons (dFrz (dLc (diT (dOp ixD (dVar 0) (dC (.int 0)))) (dgName 1) dYes (dOp subD (dC (.int 0)) (dVar 1)) [1])) dNil)) (dCons (dOp subD (dC (.int 1)) (dOp ixD (dVar 0) (dC (.int 1)))) dNil))))
def S_opposite : DSp := fun ds O R => ∃ (s : Sm), ds = [encS s] ∧ s.1.length ≤ 1000 ∧ R (encS (oppS s)) O
theorem len_opposite (ds : List D) (O : Own) (R : D → Own → Prop) (h : S_opposite ds O R) : ds.length = 1 := by obtain ⟨_, rfl, _⟩ := h; rfl
def negI : D → D
  | .int i => .int (0 - i)
  | d => d
theorem negI_map (ns : List Int) : (encI ns).map negI = encI (ns.map (0 - ·)) := by
  unfold encI
  rw [List.map_map, List.map_map]
  rfl
theorem sem_opposite (ds : List D) (O : Own) (R : D → Own → Prop) (h : S_opposite ds O R) : R_opposite { nx := fun _ O' => Pure O R .non O', rt := Pure O R } (startD N_opposite ds) O := by
  obtain ⟨s, rfl, hl, h⟩ := h
  show lcL (dgName 1) dYes _ _ _ _ (encI s.1) [] O
  refine lc_map negI trivial _ [] (fun d hd Q q => ?_) (by rw [encI_length]; simp; omega) ?_
  · obtain ⟨i, _, rfl⟩ := List.mem_map.mp hd
    exact q
  · rw [negI_map]
    exact Pure.same (encS_hd (oppS s)) h
/-! ### put_in -/
def N_put_in : List Str := ["one", "boxes", "numbers", "more", "number", "box", "at"]
def R_put_in : DS :=
  (dSeq (dAsg (dNew (dTimes (dFrz (dLst (dCons (dC (.int 0)) dNil))) (dCall1 lenD (dCons (dOp ixD (dOp ixD (dVar 1) (dC (.int 0))) (dC (.int 0))) dNil)))) (dgName 2))
  (dSeq (dAsg (dOp ixD (dVar 0) (dC (.int 1))) (dgName 3))
  (dSeq (dFor (diZipT (dOp ixD (dVar 0) (dC (.int 0))) (dVar 1)) (dgTup 2 (dgCons (dgName 4) (dgCons (dgName 5) dgNil))) (dSeq (dAsg (dOp addD (dVar 3) (dOp mulD (dVar 4) (dOp ixD (dVar 5) (dC (.int 1))))) (dgName 3))
  (dFor (diR1 (dCall1 lenD (dCons (dVar 2) dNil))) (dgName 6) (dAsg (dOp addD (dOp ixD (dVar 2) (dVar 6)) (dOp mulD (dVar 4) (dOp ixD (dOp ixD (dVar 5) (dC (.int 0))) (dVar 6)))) (dgSub (dVar 2) (dVar 6))))))
  (dRet (dTup (dCons (dCall1 tupleD (dCons (dVar 2) dNil)) (dCons (dVar 3) dNil)))))))
structure BxOk (n : Nat) (b : Sm) : Prop where
  len : b.1.length = n
  bd : BdL 3000 b.1
  bd2 : Bd 3000 b.2
def S_put_in : DSp := fun ds O R => ∃ (s : Sm) (bs : List Sm) (n : Nat), ds = [encS s, .lst (bs.map encS)] ∧ s.1.length = bs.length ∧ 0 < bs.length ∧ n ≤ 1000 ∧ BdL 3000 s.1 ∧ (∀ b ∈ bs, BxOk n b) ∧ R (encS (putS n s bs)) O
theorem len_put_in (ds : List D) (O : Own) (R : D → Own → Prop) (h : S_put_in ds O R) : ds.length = 2 := by obtain ⟨_, _, _, rfl, _⟩ := h; rfl
theorem inner_put_in {E : DEnds} {O : Own} {d0 d1 d3 : Option D} {k : Int} {b : Sm} {n : Nat} {acc : List Int} (hk : Bd 3000 k) (hb : BxOk n b) (ha : acc.length = n) (hE : ∀ x, E.nx [d0, d1, some (.own O.length), d3, some (.int k), some (encS b), x] (O ++ [some (.lst (encI (addk k acc b.1)))])) :
    ∀ (j i : Nat) (x : Option D), i + j = n →
    forL (dgName 6) (dAsg (dOp addD (dOp ixD (dVar 2) (dVar 6)) (dOp mulD (dVar 4) (dOp ixD (dOp ixD (dVar 5) (dC (.int 0))) (dVar 6)))) (dgSub (dVar 2) (dVar 6))) (fun _ => True) E (rngM i j)
      [d0, d1, some (.own O.length), d3, some (.int k), some (encS b), x] (O ++ [some (.lst (encI ((addk k acc b.1).take i ++ acc.drop i)))])
  | 0, i, x, h => by
    have hT : (addk k acc b.1).length = n := by unfold addk; rw [List.length_zipWith, hb.len, ha, Nat.min_self]
    have e : (addk k acc b.1).take i ++ acc.drop i = addk k acc b.1 := by rw [List.take_of_length_le (by omega), List.drop_eq_nil_of_le (by omega), List.append_nil]
    rw [e]
    exact ⟨trivial, hE x⟩
  | j + 1, i, x, h => by
    have hT : (addk k acc b.1).length = n := by unfold addk; rw [List.length_zipWith, hb.len, ha, Nat.min_self]
    have hi1 : i < acc.length := by omega
    have hi2 : i < b.1.length := by have := hb.len; omega
    have hx : (addk k acc b.1)[i]? = some (acc[i] + k * b.1[i]) := by
      unfold addk
      rw [List.getElem?_zipWith, List.getElem?_eq_getElem hi1, List.getElem?_eq_getElem hi2]
    refine ⟨trivial, ?_⟩
    walk_at "w"
    rw [asL_top]
    walk_at "w"
    rw [atD_nat (encI_get (take_get (List.getElem?_eq_getElem hi1) (by omega)))]
    walk_at "w"
    rw [atD_nat (encI_get (List.getElem?_eq_getElem hi2))]
    walk_at "w"
    refine ⟨.inl ⟨hk, hb.bd _ (List.getElem_mem hi2)⟩, ?_⟩
    walk_at "w"
    rw [top_get]
    walk_at "w"
    have hl : (encI ((addk k acc b.1).take i ++ acc.drop i)).length = n := by rw [encI_length, List.length_append, List.length_take, List.length_drop]; omega
    have e1 : ixN (encI ((addk k acc b.1).take i ++ acc.drop i)).length ((i : Nat) : Int) = some i := by
      unfold ixN
      rw [hl, if_pos (by omega), if_pos (by omega), Int.toNat_natCast]
    rw [e1]
    walk_at "w"
    rw [top_set]
    have e2 : (encI ((addk k acc b.1).take i ++ acc.drop i)).set i (.int (acc[i] + k * b.1[i])) = encI ((addk k acc b.1).take (i + 1) ++ acc.drop (i + 1)) := by
      unfold encI
      rw [← take_set hx (by omega), List.map_set]
    have r := inner_put_in hk hb ha hE j (i + 1) (some (.int ((i : Nat) : Int))) (by omega)
    rw [← e2] at r
    exact r
theorem outer_put_in {chk : Own → Prop} {E : DEnds} {O : Own} {d0 d1 : Option D} {n : Nat} (hc : ∀ ds, chk (O ++ [some (.lst ds)])) (hn : n ≤ 1000) : ∀ (ks : List Int) (bs : List Sm) (acc : List Int) (m : Int) (a b c : Option D), BdL 3000 ks → (∀ b ∈ bs, BxOk n b) → acc.length = n →
    (∀ a b c, E.nx [d0, d1, some (.own O.length), some (.int (putAcc ks bs acc m).2), a, b, c] (O ++ [some (.lst (encI (putAcc ks bs acc m).1))])) →
    forL (dgTup 2 (dgCons (dgName 4) (dgCons (dgName 5) dgNil))) (dSeq (dAsg (dOp addD (dVar 3) (dOp mulD (dVar 4) (dOp ixD (dVar 5) (dC (.int 1))))) (dgName 3))
      (dFor (diR1 (dCall1 lenD (dCons (dVar 2) dNil))) (dgName 6) (dAsg (dOp addD (dOp ixD (dVar 2) (dVar 6)) (dOp mulD (dVar 4) (dOp ixD (dOp ixD (dVar 5) (dC (.int 0))) (dVar 6)))) (dgSub (dVar 2) (dVar 6))))) chk E
      (zipD (encI ks) (bs.map encS)) [d0, d1, some (.own O.length), some (.int m), a, b, c] (O ++ [some (.lst (encI acc))])
  | [], bs, acc, m, a, b, c, _, _, _, h => ⟨hc _, by have := h a b c; simpa [putAcc] using this⟩
  | k :: ks, [], acc, m, a, b, c, _, _, _, h => ⟨hc _, by have := h a b c; simpa [putAcc] using this⟩
  | k :: ks, bx :: bs, acc, m, a, b, c, h1, h2, h3, h => by
    refine ⟨hc _, ?_⟩
    have hb := h2 bx List.mem_cons_self
    walk_at "w"
    refine ⟨.inl ⟨h1.head, hb.bd2⟩, ?_⟩
    walk_at "w"
    rw [asL_top]
    walk_at "w"
    rw [encI_length, h3]
    refine ⟨by omega, ?_⟩
    rw [Int.toNat_natCast, rngN_from]
    have hT : (addk k acc bx.1).length = n := by unfold addk; rw [List.length_zipWith, hb.len, h3, Nat.min_self]
    exact inner_put_in h1.head hb h3 (fun x => outer_put_in hc hn ks bs (addk k acc bx.1) (m + k * bx.2) _ _ x h1.tail (fun b hb => h2 b (List.mem_cons_of_mem _ hb)) hT h) n 0 c (by omega)
theorem flat_zero : ∀ n : Nat, (List.replicate n [D.int 0]).flatten = encI (List.replicate n 0)
  | 0 => rfl
  | n + 1 => by rw [List.replicate_succ, List.replicate_succ, List.flatten_cons, flat_zero n]; rfl
theorem sem_put_in (ds : List D) (O : Own) (R : D → Own → Prop) (h : S_put_in ds O R) : R_put_in { nx := fun _ O' => Pure O R .non O', rt := Pure O R } (startD N_put_in ds) O := by
  obtain ⟨s, bs, n, rfl, hl, h0, hn, b1, b2, h⟩ := h
  obtain ⟨b0, bt, rfl⟩ : ∃ b0 bt, bs = b0 :: bt := by
    cases bs with
    | nil => simp at h0
    | cons b bt => exact ⟨b, bt, rfl⟩
  have hb0 := b2 b0 List.mem_cons_self
  walk_at "w"
  rw [encI_length, hb0.len]
  refine ⟨by simp; omega, ?_⟩
  walk_at "w"
  rw [Int.toNat_natCast, flat_zero]
  show (encI s.1).length = _ ∧ _
  refine ⟨by rw [encI_length, List.length_map]; exact hl, ?_⟩
  refine outer_put_in (fun ds => rfl) hn s.1 (b0 :: bt) (List.replicate n 0) s.2 none none none b1 b2 (List.length_replicate ..) fun a b c => ?_
  walk_at "w"
  rw [asL_top]
  walk_at "w"
  exact ⟨_, top_take, .same (encS_hd (putS n s (b0 :: bt))), h⟩
end DL

/-! What the defs of law k01 compute. -/
namespace DL
open PySem L2
local macro_rules | `(tactic| walk_at "w") => `(tactic| conv => whnf)
/-! ### _law_at -/
def cellAt (ns : List Int) (z : Int) : Int := ((if 0 < ns.length then ns.getD (z % ns.length).toNat 0 else 0) + 17 * z) * 48271 % 1000003
theorem cellAt_lo (ns : List Int) (z : Int) : 0 ≤ cellAt ns z := by unfold cellAt; omega
theorem cellAt_hi (ns : List Int) (z : Int) : cellAt ns z < 1000003 := by unfold cellAt; omega
def N_l_at : List Str := ["_law_script", "_law_k", "_law_cell"]
def R_l_at : DS :=
  (dSeq (dAsg (dC (.int 0)) (dgName 2))
  (dSeq (dIfS (dTest (dOp gtD (dCall1 lenD (dCons (dVar 0) dNil)) (dC (.int 0)))) (dAsg (dOp ixD (dVar 0) (dOp modD (dVar 1) (dCall1 lenD (dCons (dVar 0) dNil)))) (dgName 2)) dNext)
  (dRet (dOp modD (dOp mulD (dOp addD (dVar 2) (dOp mulD (dC (.int 17)) (dVar 1))) (dC (.int 48271))) (dC (.int 1000003))))))
def S_l_at : DSp := fun ds O R => ∃ (ns : List Int) (z : Int), ds = [.scr ns, .int z] ∧ 0 ≤ z ∧ R (.int (cellAt ns z)) O
theorem len_l_at (ds : List D) (O : Own) (R : D → Own → Prop) (h : S_l_at ds O R) : ds.length = 2 := by obtain ⟨_, _, rfl, _⟩ := h; rfl
theorem sem_l_at (ds : List D) (O : Own) (R : D → Own → Prop) (h : S_l_at ds O R) : R_l_at { nx := fun _ O' => Pure O R .non O', rt := Pure O R } (startD N_l_at ds) O := by
  obtain ⟨ns, z, rfl, hz, h⟩ := h
  walk_at "w"
  refine ifD (fun h0 => ?_) (fun h0 => ?_)
  · walk_at "w"
    refine ⟨h0, ?_⟩
    have h1 : 0 < ns.length := by omega
    have hm : z % (ns.length : Int) < ns.length := Int.emod_lt_of_pos _ h0
    have hn : 0 ≤ z % (ns.length : Int) := Int.emod_nonneg _ (by omega)
    have e : ns[(z % (ns.length : Int)).toNat]? = some (ns.getD (z % (ns.length : Int)).toNat 0) := by
      rw [List.getD_eq_getElem?_getD, List.getElem?_eq_getElem (by omega)]
      rfl
    have e2 : atD ns (z % (ns.length : Int)) = some (ns.getD (z % (ns.length : Int)).toNat 0) := by
      unfold atD
      rw [if_pos hn]
      exact e
    walk_at "w"
    rw [e2]
    walk_at "w"
    refine ⟨.inr (.inl (by unfold Bd; decide)), ?_⟩
    walk_at "w"
    refine ⟨.inr (.inr (by unfold Bd; decide)), ?_⟩
    walk_at "w"
    refine ⟨(by decide : (0 : Int) < 1000003), Pure.same (.int _) ?_⟩
    have e3 : cellAt ns z = (ns.getD (z % (ns.length : Int)).toNat 0 + 17 * z) * 48271 % 1000003 := by unfold cellAt; rw [if_pos h1]
    rw [e3] at h
    exact h
  · walk_at "w"
    refine ⟨.inr (.inl (by unfold Bd; decide)), ?_⟩
    walk_at "w"
    refine ⟨.inr (.inr (by unfold Bd; decide)), ?_⟩
    walk_at "w"
    refine ⟨(by decide : (0 : Int) < 1000003), Pure.same (.int _) ?_⟩
    have e3 : cellAt ns z = (0 + 17 * z) * 48271 % 1000003 := by unfold cellAt; rw [if_neg (by omega)]
    rw [e3] at h
    exact h
/-! ### _law_whole -/
def N_l_whole : List Str := ["_law_thing"]
def R_l_whole : DS :=
  (dRet (dAndV (dIsi .int (dVar 0)) (dNotV (dIsi .bl (dVar 0)))))
def wholeT : Ty → Bool
  | .int => true
  | _ => false
def S_l_whole : DSp := fun ds O R => ∃ (d : D) (t : Ty), ds = [d] ∧ tyD O d = some t ∧ R (.bl (wholeT t)) O
theorem len_l_whole (ds : List D) (O : Own) (R : D → Own → Prop) (h : S_l_whole ds O R) : ds.length = 1 := by obtain ⟨_, _, rfl, _⟩ := h; rfl
theorem sem_l_whole (ds : List D) (O : Own) (R : D → Own → Prop) (h : S_l_whole ds O R) : R_l_whole { nx := fun _ O' => Pure O R .non O', rt := Pure O R } (startD N_l_whole ds) O := by
  obtain ⟨d, t, rfl, ht, h⟩ := h
  show oK (tyD O d) _
  rw [ht]
  show if isTy t .int = true then _ else _
  cases t with
  | int =>
    show oK (tyD O d) _
    rw [ht]
    exact Pure.same (.bl _) h
  | bl =>
    show oK (tyD O d) _
    rw [ht]
    exact Pure.same (.bl _) h
  | _ => exact Pure.same (.bl _) h
/-! ### _law_number -/
def numOf (c m : Int) : Int := if m = 0 then (c - 500000) * 10 ^ 20 else c % (2 * m + 1) - m
def N_l_number : List Str := ["_law_cell", "_law_most"]
def R_l_number : DS :=
  (dSeq (dIfS (dTest (dOp eqD (dVar 1) (dC (.int 0)))) (dRet (dOp mulD (dOp subD (dVar 0) (dC (.int 500000))) (dOp powD (dC (.int 10)) (dC (.int 20))))) dNext)
  (dRet (dOp subD (dOp modD (dVar 0) (dOp addD (dOp mulD (dC (.int 2)) (dVar 1)) (dC (.int 1)))) (dVar 1))))
def S_l_number : DSp := fun ds O R => ∃ (c m : Int), ds = [.int c, .int m] ∧ 0 ≤ c ∧ c < 1000003 ∧ 0 ≤ m ∧ m ≤ 99 ∧ R (.int (numOf c m)) O
theorem len_l_number (ds : List D) (O : Own) (R : D → Own → Prop) (h : S_l_number ds O R) : ds.length = 2 := by obtain ⟨_, _, rfl, _⟩ := h; rfl
theorem num_bd {c m : Int} (h1 : 0 ≤ c) (h2 : c < 1000003) (h3 : 0 ≤ m) (h4 : m ≤ 99) : Bd 100 (numOf c m) := by
  unfold numOf
  by_cases e : m = 0
  · rw [if_pos e]
    have a : Bd 20 (c - 500000) := Bd.of 600000 (by omega) (by decide)
    have b : Bd 70 ((10 : Int) ^ 20) := by unfold Bd; decide
    exact (a.mul b).mono (by decide)
  · rw [if_neg e]
    have a := Int.emod_nonneg c (b := 2 * m + 1) (by omega)
    have b := Int.emod_lt_of_pos c (b := 2 * m + 1) (by omega)
    exact Bd.of 1000 (by omega) (by decide)
theorem sem_l_number (ds : List D) (O : Own) (R : D → Own → Prop) (h : S_l_number ds O R) : R_l_number { nx := fun _ O' => Pure O R .non O', rt := Pure O R } (startD N_l_number ds) O := by
  obtain ⟨c, m, rfl, h1, h2, h3, h4, h⟩ := h
  walk_at "w"
  refine ifD (fun e => ?_) (fun e => ?_)
  · walk_at "w"
    refine ⟨by decide, ?_⟩
    walk_at "w"
    refine ⟨.inr (.inl (Bd.of 600000 (by omega) (by decide))), Pure.same (.int _) ?_⟩
    unfold numOf at h
    rw [if_pos e] at h
    exact h
  · walk_at "w"
    refine ⟨.inr (.inl (by unfold Bd; decide)), ?_⟩
    walk_at "w"
    refine ⟨by omega, Pure.same (.int _) ?_⟩
    unfold numOf at h
    rw [if_neg e] at h
    exact h
/-! ### _law_is_sum -/
def N_l_is_sum : List Str := ["_law_found", "_law_many", "_law_one"]
def R_l_is_sum : DS :=
  (dSeq (dIfS (dOr (dNot (dTest (dIsi .tup (dVar 0)))) (dOr (dTest (dOp neD (dCall1 lenD (dCons (dVar 0) dNil)) (dC (.int 2)))) (dOr (dNot (dTest (dIsi .tup (dOp ixD (dVar 0) (dC (.int 0)))))) (dTest (dOp neD (dCall1 lenD (dCons (dOp ixD (dVar 0) (dC (.int 0))) dNil)) (dVar 1)))))) (dRet (dC (.bl false))) dNext)
  (dRet (dAndV (dCall S_l_whole (dCons (dOp ixD (dVar 0) (dC (.int 1))) dNil)) (dOp eqD (dFrz (dLc (diT (dOp ixD (dVar 0) (dC (.int 0)))) (dgName 2) (dNot (dTest (dCall S_l_whole (dCons (dVar 2) dNil)))) (dVar 2) [2])) (dFrz (dLst dNil))))))
def S_l_is_sum : DSp := fun ds O R => ∃ (s : Sm) (z : Int), ds = [encS s, .int z] ∧ (s.1.length : Int) = z ∧ s.1.length ≤ 1000 ∧ R (.bl true) O
theorem len_l_is_sum (ds : List D) (O : Own) (R : D → Own → Prop) (h : S_l_is_sum ds O R) : ds.length = 2 := by obtain ⟨_, _, rfl, _⟩ := h; rfl
theorem sem_l_is_sum (ds : List D) (O : Own) (R : D → Own → Prop) (h : S_l_is_sum ds O R) : R_l_is_sum { nx := fun _ O' => Pure O R .non O', rt := Pure O R } (startD N_l_is_sum ds) O := by
  obtain ⟨s, z, rfl, hz, hl, h⟩ := h
  walk_at "w"
  refine ifF (by rw [encI_length, hz, decide_eq_true rfl]; rfl) ?_
  refine ⟨.int s.2, .int, rfl, rfl, ?_⟩
  walk_at "w"
  refine lc_filter (fun _ => false) id trivial _ [] (fun d hd Q q => ?_) (fun _ _ e => by cases e) (by rw [encI_length]; simp; omega) ?_
  · obtain ⟨i, _, rfl⟩ := List.mem_map.mp hd
    exact ⟨.int i, .int, rfl, rfl, q⟩
  · rw [List.filter_eq_nil_iff.mpr (fun _ _ e => by cases e)]
    show eqD O (.lst []) (.lst []) (Pure O R)
    exact eqD_self (p := .list []) rfl (Pure.same (.bl _) h)
end DL

/-! What _law_unit and _law_word make: sums within the bounds. -/
namespace DL
open PySem L2
local macro_rules | `(tactic| walk_at "w") => `(tactic| conv => whnf)
/-- a sum over n boxes, as the document bounds it -/
def SmW (n : Nat) (s : Sm) : Prop := s.1.length = n ∧ (∀ x ∈ s.1, -9 ≤ x ∧ x ≤ 9) ∧ -99 ≤ s.2 ∧ s.2 ≤ 99
theorem SmW.bd {n : Nat} {s : Sm} (h : SmW n s) : BdL 60 s.1 := fun x hx => Bd.of 9 (by have := h.2.1 x hx; omega) (by decide)
theorem SmW.bd2 {n : Nat} {s : Sm} (h : SmW n s) : Bd 60 s.2 := Bd.of 99 (by have := h.2.2; omega) (by decide)
def unitS (n b : Nat) (x m : Int) : Sm := ((List.replicate n 0).set b x, m)
theorem unitS_ok {n b : Nat} {x m : Int} (h1 : -9 ≤ x) (h2 : x ≤ 9) (h3 : -99 ≤ m) (h4 : m ≤ 99) : SmW n (unitS n b x m) := ⟨by simp [unitS], fun y hy => by
  rcases List.mem_or_eq_of_mem_set hy with z | z
  · have := List.eq_of_mem_replicate z; omega
  · omega, h3, h4⟩
def N_l_unit : List Str := ["_law_many", "_law_box", "_law_number", "_law_more", "_law_numbers"]
def R_l_unit : DS :=
  (dSeq (dAsg (dNew (dTimes (dFrz (dLst (dCons (dC (.int 0)) dNil))) (dVar 0))) (dgName 4))
  (dSeq (dAsg (dVar 2) (dgSub (dVar 4) (dVar 1)))
  (dRet (dTup (dCons (dCall1 tupleD (dCons (dVar 4) dNil)) (dCons (dVar 3) dNil))))))
def S_l_unit : DSp := fun ds O R => ∃ (n b : Nat) (x m : Int), ds = [.int n, .int b, .int x, .int m] ∧ n ≤ 100 ∧ b < n ∧ R (encS (unitS n b x m)) O
theorem len_l_unit (ds : List D) (O : Own) (R : D → Own → Prop) (h : S_l_unit ds O R) : ds.length = 4 := by obtain ⟨_, _, _, _, rfl, _⟩ := h; rfl
theorem sem_l_unit (ds : List D) (O : Own) (R : D → Own → Prop) (h : S_l_unit ds O R) : R_l_unit { nx := fun _ O' => Pure O R .non O', rt := Pure O R } (startD N_l_unit ds) O := by
  obtain ⟨n, b, x, m, rfl, hn, hb, h⟩ := h
  walk_at "w"
  refine ⟨by simp; omega, ?_⟩
  rw [Int.toNat_natCast, flat_zero]
  walk_at "w"
  rw [top_get]
  walk_at "w"
  have e1 : ixN (encI (List.replicate n 0)).length ((b : Nat) : Int) = some b := by
    unfold ixN
    rw [encI_length, List.length_replicate, if_pos (by omega), if_pos (by omega), Int.toNat_natCast]
  rw [e1]
  walk_at "w"
  rw [top_set]
  have e2 : (encI (List.replicate n 0)).set b (.int x) = encI ((List.replicate n 0).set b x) := by unfold encI; rw [List.map_set]
  rw [e2]
  walk_at "w"
  rw [asL_top]
  walk_at "w"
  exact ⟨_, top_take, .same (encS_hd (unitS n b x m)), h⟩
def N_l_word : List Str := ["_law_cell", "_law_many", "_law_way", "_law_box", "_law_more", "_law_numbers", "_law_k"]
def R_l_word : DS :=
  (dSeq (dAsg (dOp modD (dVar 0) (dC (.int 6))) (dgName 2))
  (dSeq (dAsg (dOp modD (dOp divD (dVar 0) (dC (.int 6))) (dVar 1)) (dgName 3))
  (dSeq (dAsg (dOp modD (dOp divD (dVar 0) (dC (.int 18))) (dC (.int 5))) (dgName 4))
  (dSeq (dIfS (dTest (dOp ltD (dVar 2) (dC (.int 2)))) (dRet (dCall S_l_unit (dCons (dVar 1) (dCons (dVar 3) (dCons (dC (.int 1)) (dCons (negD (dVar 4)) dNil)))))) dNext)
  (dSeq (dIfS (dTest (dOp ltD (dVar 2) (dC (.int 4)))) (dRet (dCall S_l_unit (dCons (dVar 1) (dCons (dVar 3) (dCons (negD (dC (.int 1))) (dCons (dVar 4) dNil)))))) dNext)
  (dSeq (dIfS (dAnd (dTest (dOp eqD (dVar 2) (dC (.int 4)))) (dTest (dOp gtD (dVar 1) (dC (.int 1))))) (dSeq (dAsg (dNew (dList (dOp ixD (dCall S_l_unit (dCons (dVar 1) (dCons (dVar 3) (dCons (dC (.int 1)) (dCons (dC (.int 0)) dNil))))) (dC (.int 0))))) (dgName 5))
  (dSeq (dAsg (negD (dC (.int 1))) (dgSub (dVar 5) (dOp modD (dOp addD (dVar 3) (dC (.int 1))) (dVar 1))))
  (dRet (dTup (dCons (dCall1 tupleD (dCons (dVar 5) dNil)) (dCons (dOp subD (dOp modD (dOp divD (dVar 0) (dC (.int 90))) (dC (.int 5))) (dC (.int 2))) dNil)))))) dNext)
  (dSeq (dIfS (dTest (dOp gtD (dOp modD (dOp divD (dVar 0) (dC (.int 90))) (dC (.int 4))) (dC (.int 0)))) (dRet (dTup (dCons (dCall1 tupleD (dCons (dFrz (dLc (diR1 (dVar 1)) (dgName 6) dYes (dOp subD (dOp modD (dOp divD (dVar 0) (dOp ixD (dFrz (dLst (dCons (dC (.int 18)) (dCons (dC (.int 90)) (dCons (dC (.int 450)) dNil))))) (dVar 6))) (dC (.int 5))) (dC (.int 2))) [6])) dNil)) (dCons (dOp subD (dOp modD (dOp divD (dVar 0) (dC (.int 2250))) (dC (.int 13))) (dC (.int 6))) dNil)))) dNext)
  (dRet (dTup (dCons (dCall1 tupleD (dCons (dFrz (dLc (diR1 (dVar 1)) (dgName 6) dYes (dOp subD (dOp modD (dOp divD (dVar 0) (dOp ixD (dFrz (dLst (dCons (dC (.int 18)) (dCons (dC (.int 342)) (dCons (dC (.int 6498)) dNil))))) (dVar 6))) (dC (.int 19))) (dC (.int 9))) [6])) dNil)) (dCons (dOp subD (dOp modD (dOp divD (dVar 0) (dC (.int 7))) (dC (.int 199))) (dC (.int 99))) dNil)))))))))))
def S_l_word : DSp := fun ds O R => ∃ (c : Int) (n : Nat), ds = [.int c, .int n] ∧ 0 ≤ c ∧ 1 ≤ n ∧ n ≤ 3 ∧ ∀ s, SmW n s → R (encS s) O
theorem len_l_word (ds : List D) (O : Own) (R : D → Own → Prop) (h : S_l_word ds O R) : ds.length = 2 := by obtain ⟨_, _, rfl, _⟩ := h; rfl
theorem sem_l_word (ds : List D) (O : Own) (R : D → Own → Prop) (h : S_l_word ds O R) : R_l_word { nx := fun _ O' => Pure O R .non O', rt := Pure O R } (startD N_l_word ds) O := by
  obtain ⟨c, n, rfl, hc, hn1, hn3, h⟩ := h
  walk_at "w"
  refine ⟨(by decide : (0 : Int) < 6), ?_⟩
  walk_at "w"
  refine ⟨(by decide : (0 : Int) < 6 ∧ (6 : Int) < _), ?_⟩
  walk_at "w"
  refine ⟨(by omega : (0 : Int) < n), ?_⟩
  walk_at "w"
  refine ⟨(by decide : (0 : Int) < 18 ∧ (18 : Int) < _), ?_⟩
  walk_at "w"
  refine ⟨(by decide : (0 : Int) < 5), ?_⟩
  have b1 := Int.emod_nonneg (c / 6) (b := (n : Int)) (by omega)
  have b2 := Int.emod_lt_of_pos (c / 6) (b := (n : Int)) (by omega)
  obtain ⟨b, hb⟩ : ∃ b : Nat, c / 6 % (n : Int) = (b : Int) := ⟨(c / 6 % (n : Int)).toNat, by omega⟩
  rw [hb] at b2
  have bn : b < n := by omega
  have q5 := Int.emod_nonneg (c / 18) (b := 5) (by decide)
  have q6 := Int.emod_lt_of_pos (c / 18) (b := 5) (by decide)
  walk_at "w"
  refine ifD (fun _ => ?_) (fun _ => ?_)
  · refine ⟨n, b, 1, -(c / 18 % 5), (by show [D.int n, .int (c / 6 % n), .int 1, .int (-(c / 18 % 5))] = _; rw [hb]), by omega, bn, Pure.same (encS_hd _) (h _ (unitS_ok (by decide) (by decide) (by omega) (by omega)))⟩
  walk_at "w"
  refine ifD (fun _ => ?_) (fun _ => ?_)
  · refine ⟨n, b, -1, c / 18 % 5, (by show [D.int n, .int (c / 6 % n), .int (-1), .int (c / 18 % 5)] = _; rw [hb]), by omega, bn, Pure.same (encS_hd _) (h _ (unitS_ok (by decide) (by decide) (by omega) (by omega)))⟩
  have rest : (dSeq
                      (dIfS
                        (dTest (dOp gtD (dOp modD (dOp divD (dVar 0) (dC (D.int 90))) (dC (D.int 4))) (dC (D.int 0))))
                        (dRet (dTup (dCons (dCall1 tupleD (dCons (dFrz (dLc (diR1 (dVar 1)) (dgName 6) dYes (dOp subD (dOp modD (dOp divD (dVar 0) (dOp ixD (dFrz (dLst (dCons (dC (.int 18)) (dCons (dC (.int 90)) (dCons (dC (.int 450)) dNil))))) (dVar 6))) (dC (.int 5))) (dC (.int 2))) [6])) dNil)) (dCons (dOp subD (dOp modD (dOp divD (dVar 0) (dC (.int 2250))) (dC (.int 13))) (dC (.int 6))) dNil)))) dNext)
  (dRet (dTup (dCons (dCall1 tupleD (dCons (dFrz (dLc (diR1 (dVar 1)) (dgName 6) dYes (dOp subD (dOp modD (dOp divD (dVar 0) (dOp ixD (dFrz (dLst (dCons (dC (.int 18)) (dCons (dC (.int 342)) (dCons (dC (.int 6498)) dNil))))) (dVar 6))) (dC (.int 19))) (dC (.int 9))) [6])) dNil)) (dCons (dOp subD (dOp modD (dOp divD (dVar 0) (dC (.int 7))) (dC (.int 199))) (dC (.int 99))) dNil))))) { nx := fun _ O' => Pure O R .non O', rt := Pure O R } [some (.int c), some (.int n), some (.int (c % 6)), some (.int (c / 6 % n)), some (.int (c / 18 % 5)), none, none] O := by
    walk_at "w"
    refine ⟨(by decide : (0 : Int) < 90 ∧ (90 : Int) < _), ?_⟩
    walk_at "w"
    refine ⟨(by decide : (0 : Int) < 4), ?_⟩
    refine ifD (fun _ => ?_) (fun _ => ?_)
    · walk_at "w"
      refine ⟨by omega, ?_⟩
      rw [Int.toNat_natCast]
      refine lc_rng (fun j => .int (c / [18, 90, 450].getD j 1 % 5 - 2)) trivial (by omega) (fun j hj Q q => ?_) ?_
      · have : j = 0 ∨ j = 1 ∨ j = 2 := by omega
        rcases this with rfl | rfl | rfl
        · exact ⟨(by decide : (0 : Int) < 18 ∧ (18 : Int) < _), (by decide : (0 : Int) < 5), q⟩
        · exact ⟨(by decide : (0 : Int) < 90 ∧ (90 : Int) < _), (by decide : (0 : Int) < 5), q⟩
        · exact ⟨(by decide : (0 : Int) < 450 ∧ (450 : Int) < _), (by decide : (0 : Int) < 5), q⟩
      have e9 : (List.range n).map (fun j : Nat => D.int (c / [18, 90, 450].getD j 1 % 5 - 2)) = encI ((List.range n).map fun j : Nat => c / [18, 90, 450].getD j 1 % 5 - 2) := by rw [encI, List.map_map]; rfl
      rw [e9]
      walk_at "w"
      refine ⟨(by decide : (0 : Int) < 2250 ∧ (2250 : Int) < _), ?_⟩
      walk_at "w"
      refine ⟨(by decide : (0 : Int) < 13), ?_⟩
      refine Pure.same (encS_hd (_, c / 2250 % 13 - 6)) (h (_, c / 2250 % 13 - 6) ⟨by simp, fun x hx => ?_, by omega, by omega⟩)
      obtain ⟨j, _, rfl⟩ := List.mem_map.mp hx
      omega
    · walk_at "w"
      refine ⟨by omega, ?_⟩
      rw [Int.toNat_natCast]
      refine lc_rng (fun j => .int (c / [18, 342, 6498].getD j 1 % 19 - 9)) trivial (by omega) (fun j hj Q q => ?_) ?_
      · have : j = 0 ∨ j = 1 ∨ j = 2 := by omega
        rcases this with rfl | rfl | rfl
        · exact ⟨(by decide : (0 : Int) < 18 ∧ (18 : Int) < _), (by decide : (0 : Int) < 19), q⟩
        · exact ⟨(by decide : (0 : Int) < 342 ∧ (342 : Int) < _), (by decide : (0 : Int) < 19), q⟩
        · exact ⟨(by decide : (0 : Int) < 6498 ∧ (6498 : Int) < _), (by decide : (0 : Int) < 19), q⟩
      have e9 : (List.range n).map (fun j : Nat => D.int (c / [18, 342, 6498].getD j 1 % 19 - 9)) = encI ((List.range n).map fun j : Nat => c / [18, 342, 6498].getD j 1 % 19 - 9) := by rw [encI, List.map_map]; rfl
      rw [e9]
      walk_at "w"
      refine ⟨(by decide : (0 : Int) < 7 ∧ (7 : Int) < _), ?_⟩
      walk_at "w"
      refine ⟨(by decide : (0 : Int) < 199), ?_⟩
      refine Pure.same (encS_hd (_, c / 7 % 199 - 99)) (h (_, c / 7 % 199 - 99) ⟨by simp, fun x hx => ?_, by omega, by omega⟩)
      obtain ⟨j, _, rfl⟩ := List.mem_map.mp hx
      omega
  walk_at "w"
  refine ifD (fun _ => ?_) (fun _ => ?_)
  · walk_at "w"
    refine ifD (fun _ => ?_) (fun _ => rest)
    refine ⟨n, b, 1, 0, (by show [D.int n, .int (c / 6 % n), .int 1, .int 0] = _; rw [hb]), by omega, bn, ?_⟩
    walk_at "w"
    refine ⟨(by omega : (0 : Int) < n), ?_⟩
    walk_at "w"
    rw [top_get]
    have c1 := Int.emod_nonneg (c / 6 % (n : Int) + 1) (b := (n : Int)) (by omega)
    have c2 := Int.emod_lt_of_pos (c / 6 % (n : Int) + 1) (b := (n : Int)) (by omega)
    obtain ⟨k, hk⟩ : ∃ k : Nat, (c / 6 % (n : Int) + 1) % (n : Int) = (k : Int) := ⟨((c / 6 % (n : Int) + 1) % (n : Int)).toNat, by omega⟩
    rw [hk] at c2
    walk_at "w"
    have e1 : ixN (encI (unitS n b 1 0).1).length ((c / 6 % (n : Int) + 1) % (n : Int)) = some k := by
      unfold ixN
      rw [hk, encI_length, (unitS_ok (n := n) (b := b) (x := 1) (m := 0) (by decide) (by decide) (by decide) (by decide)).1, if_pos (by omega), if_pos (by omega), Int.toNat_natCast]
    rw [e1]
    walk_at "w"
    rw [top_set]
    have e2 : (encI (unitS n b 1 0).1).set k (.int (-1)) = encI ((unitS n b 1 0).1.set k (-1)) := by unfold encI; rw [List.map_set]
    rw [e2]
    walk_at "w"
    rw [asL_top]
    walk_at "w"
    refine ⟨(by decide : (0 : Int) < 90 ∧ (90 : Int) < _), ?_⟩
    walk_at "w"
    refine ⟨(by decide : (0 : Int) < 5), ?_⟩
    have u := unitS_ok (n := n) (b := b) (x := 1) (m := 0) (by decide) (by decide) (by decide) (by decide)
    refine ⟨_, top_take, .same (encS_hd ((unitS n b 1 0).1.set k (-1), c / 90 % 5 - 2)), h ((unitS n b 1 0).1.set k (-1), c / 90 % 5 - 2) ⟨by rw [List.length_set]; exact u.1, fun x hx => ?_, by omega, by omega⟩⟩
    rcases List.mem_or_eq_of_mem_set hx with z | z
    · exact u.2.1 x z
    · omega
  · exact rest
end DL

/-! Trees: what least, over, with_pair, widest, tried, is_tree compute. -/
namespace DL
open PySem L2
local macro_rules | `(tactic| walk_at "w") => `(tactic| conv => whnf)
theorem asL_cases {O : Own} {d : D} {ds : List D} (h : asL O d = some ds) : d = .lst ds ∨ ∃ k, d = .own k ∧ asL O (.own k) = some ds := by
  cases d with
  | lst es => cases h; exact .inl rfl
  | own k => exact .inr ⟨k, rfl, h⟩
  | _ => cases h
theorem ifNB {b : Bool} {A B : Prop} (h : (b = true → B) ∧ (b = false → A)) : if (!b) = true then A else B := by
  cases b with
  | true => exact h.1 rfl
  | false => exact h.2 rfl
theorem decide_cases {p A B : Prop} [Decidable p] (_ : Unit) (h1 : p → B) (h2 : ¬ p → A) : (decide p = true → B) ∧ (decide p = false → A) := ⟨fun e => h1 (of_decide_eq_true e), fun e => h2 (of_decide_eq_false e)⟩
abbrev Pr := Int × Int
def encP (p : Pr) : D := .tup [.int p.1, .int p.2]
def encSt (st : List Pr) : List D := st.map encP
theorem encSt_length (st : List Pr) : (encSt st).length = st.length := List.length_map ..
theorem encSt_get {st : List Pr} {i : Nat} {p : Pr} (h : st[i]? = some p) : (encSt st)[i]? = some (encP p) := by unfold encSt; rw [List.getElem?_map, h]; rfl
theorem encSt_hd {n : Nat} (st : List Pr) : HdL n (encSt st) := HdL.of fun d hd => by
  obtain ⟨p, _, rfl⟩ := List.mem_map.mp hd
  exact .tup (.cons (.int _) (.cons (.int _) .nil))
def mn (i j : Int) : Int := if j < i then j else i
def ldot : List Int → List Pr → Int
  | a :: as, p :: ps => mn (a * p.1) (a * p.2) + ldot as ps
  | _, _ => 0
def leastS (s : Sm) (st : List Pr) : Int := s.2 + ldot s.1 st
/-- a stretch of small numbers -/
def StB (st : List Pr) : Prop := ∀ p ∈ st, (-100 ≤ p.1 ∧ p.1 ≤ 100) ∧ -100 ≤ p.2 ∧ p.2 ≤ 100
theorem bd100 {i : Int} (h1 : -100 ≤ i) (h2 : i ≤ 100) : Bd 3000 i := (Bd.of (n := 8) 100 (by omega) (by decide)).mono (by decide)
theorem StB.set {st : List Pr} (h : StB st) (b : Nat) {q : Pr} (h1 : (-100 ≤ q.1 ∧ q.1 ≤ 100) ∧ -100 ≤ q.2 ∧ q.2 ≤ 100) : StB (st.set b q) := fun p hp => by
  rcases List.mem_or_eq_of_mem_set hp with z | z
  · exact h p z
  · rw [z]; exact h1
def N_least : List Str := ["one", "stretch", "found", "number", "pair"]
def R_least : DS :=
  (dSeq (dAsg (dOp ixD (dVar 0) (dC (.int 1))) (dgName 2))
  (dSeq (dFor (diZipT (dOp ixD (dVar 0) (dC (.int 0))) (dVar 1)) (dgTup 2 (dgCons (dgName 3) (dgCons (dgName 4) dgNil))) (dAsg (dOp addD (dVar 2) (dCall1 min2D (dCons (dOp mulD (dVar 3) (dOp ixD (dVar 4) (dC (.int 0)))) (dCons (dOp mulD (dVar 3) (dOp ixD (dVar 4) (dC (.int 1)))) dNil)))) (dgName 2)))
  (dRet (dVar 2))))
def S_least : DSp := fun ds O R => ∃ (s : Sm) (st : List Pr) (d2 : D), ds = [encS s, d2] ∧ asL O d2 = some (encSt st) ∧ s.1.length = st.length ∧ BdL 3000 s.1 ∧ StB st ∧ R (.int (leastS s st)) O
theorem len_least (ds : List D) (O : Own) (R : D → Own → Prop) (h : S_least ds O R) : ds.length = 2 := by obtain ⟨_, _, _, rfl, _⟩ := h; rfl
theorem loop_least {chk : Own → Prop} {E : DEnds} {O : Own} {d1 d2 : Option D} (hc : chk O) : ∀ (ns : List Int) (st : List Pr) (m : Int) (a b : Option D), BdL 3000 ns → StB st → (∀ a b, E.nx [d1, d2, some (.int (m + ldot ns st)), a, b] O) →
    forL (dgTup 2 (dgCons (dgName 3) (dgCons (dgName 4) dgNil))) (dAsg (dOp addD (dVar 2) (dCall1 min2D (dCons (dOp mulD (dVar 3) (dOp ixD (dVar 4) (dC (.int 0)))) (dCons (dOp mulD (dVar 3) (dOp ixD (dVar 4) (dC (.int 1)))) dNil)))) (dgName 2)) chk E (zipD (encI ns) (encSt st)) [d1, d2, some (.int m), a, b] O
  | [], st, m, a, b, _, _, h => ⟨hc, by have := h a b; simpa [ldot] using this⟩
  | n :: ns, [], m, a, b, _, _, h => ⟨hc, by have := h a b; simpa [ldot] using this⟩
  | n :: ns, p :: st, m, a, b, b1, b2, h => by
    have bp := b2 p List.mem_cons_self
    refine ⟨hc, ?_⟩
    walk_at "w"
    refine ⟨.inl ⟨b1.head, bd100 bp.1.1 bp.1.2⟩, ?_⟩
    walk_at "w"
    refine ⟨.inl ⟨b1.head, bd100 bp.2.1 bp.2.2⟩, ?_⟩
    refine loop_least hc ns st (m + mn (n * p.1) (n * p.2)) _ _ b1.tail (fun q hq => b2 q (List.mem_cons_of_mem _ hq)) fun a b => ?_
    rw [Int.add_assoc]
    exact h a b
theorem sem_least (ds : List D) (O : Own) (R : D → Own → Prop) (h : S_least ds O R) : R_least { nx := fun _ O' => Pure O R .non O', rt := Pure O R } (startD N_least ds) O := by
  obtain ⟨s, st, d2, rfl, h2, hl, b1, b2, h⟩ := h
  walk_at "w"
  rw [h2]
  refine ⟨by rw [encI_length, encSt_length]; exact hl, ?_⟩
  exact loop_least h2 s.1 st s.2 none none b1 b2 fun a b => Pure.same (.int _) h
/-! ### over -/
def SmOk (n : Nat) (s : Sm) : Prop := s.1.length = n ∧ BdL 3000 s.1 ∧ Bd 3000 s.2
def encSs (ss : List Sm) : List D := ss.map encS
theorem encSs_hd {n : Nat} (ss : List Sm) : HdL n (encSs ss) := HdL.of fun d hd => by
  obtain ⟨p, _, rfl⟩ := List.mem_map.mp hd
  exact encS_hd p
theorem encSs_length (ss : List Sm) : (encSs ss).length = ss.length := List.length_map ..
theorem encSs_get {ss : List Sm} {i : Nat} {p : Sm} (h : ss[i]? = some p) : (encSs ss)[i]? = some (encS p) := by unfold encSs; rw [List.getElem?_map, h]; rfl
def overS (st : List Pr) (ss : List Sm) : Nat := ss.findIdx fun s => decide (0 < leastS s st)
def N_over : List Str := ["stretch", "some", "at"]
def R_over : DS :=
  (dSeq (dFor (diR1 (dCall1 lenD (dCons (dVar 1) dNil))) (dgName 2) (dIfS (dTest (dOp gtD (dCall S_least (dCons (dOp ixD (dVar 1) (dVar 2)) (dCons (dVar 0) dNil))) (dC (.int 0)))) (dRet (dVar 2)) dNext))
  (dRet (dCall1 lenD (dCons (dVar 1) dNil))))
def S_over : DSp := fun ds O R => ∃ (st : List Pr) (ss : List Sm) (d1 d2 : D), ds = [d1, d2] ∧ asL O d1 = some (encSt st) ∧ asL O d2 = some (encSs ss) ∧ ss.length ≤ 1000 ∧ (∀ s ∈ ss, SmOk st.length s) ∧ StB st ∧ R (.int (overS st ss : Nat)) O
theorem len_over (ds : List D) (O : Own) (R : D → Own → Prop) (h : S_over ds O R) : ds.length = 2 := by obtain ⟨_, _, _, _, rfl, _⟩ := h; rfl
theorem sem_over (ds : List D) (O : Own) (R : D → Own → Prop) (h : S_over ds O R) : R_over { nx := fun _ O' => Pure O R .non O', rt := Pure O R } (startD N_over ds) O := by
  obtain ⟨st, ss, d1, d2, rfl, h1, h2, hn, hs, hb0, h⟩ := h
  rcases asL_cases h2 with rfl | ⟨k, rfl, -⟩
  all_goals
    walk_at "w"
    try rw [h2]
    try walk_at "w"
    rw [encSs_length]
    refine ⟨by omega, ?_⟩
    rw [Int.toNat_natCast]
    refine forL_rng ss.length (fun j δ O' => O' = O ∧ (∃ c, δ = [some d1, some _, c]) ∧ ∀ i : Nat, i < j → ∀ s, ss[i]? = some s → ¬ 0 < leastS s st) ⟨rfl, ⟨_, rfl⟩, fun i hi => by omega⟩ (fun _ _ _ _ => trivial) ?_ ?_
    · rintro j δ O' nx hj ⟨rfl, ⟨c, rfl⟩, hb⟩ hx
      have gj : ss[j]? = some ss[j] := List.getElem?_eq_getElem hj
      walk_at "w"
      try rw [h2]
      try walk_at "w"
      rw [atD_nat (encSs_get gj)]
      obtain ⟨l1, l2, _⟩ := hs _ (List.getElem_mem hj)
      refine ⟨ss[j], st, d1, rfl, h1, l1, l2, hb0, ?_⟩
      refine ifD (fun e => ?_) (fun e => ?_)
      · have : overS st ss = j := by
          refine (List.findIdx_eq hj).mpr ⟨decide_eq_true e, fun i hi => ?_⟩
          exact decide_eq_false (hb i hi _ (List.getElem?_eq_getElem (by omega)))
        rw [this] at h
        exact Pure.same (.int _) h
      · refine hx _ _ ⟨rfl, ⟨_, rfl⟩, fun i hi s q => ?_⟩
        by_cases z : i = j
        · subst z; rw [gj] at q; cases q; exact e
        · exact hb i (by omega) s q
    · rintro δ O' ⟨rfl, ⟨c, rfl⟩, hb⟩
      walk_at "w"
      try rw [h2]
      try walk_at "w"
      have : overS st ss = ss.length := List.findIdx_eq_length_of_false fun x hx => by
        obtain ⟨i, hi, rfl⟩ := List.mem_iff_getElem.mp hx
        exact decide_eq_false (hb i hi _ (List.getElem?_eq_getElem hi))
      rw [this] at h
      rw [← encSs_length] at h
      exact Pure.same (.int _) h
/-! ### with_pair -/
def N_with_pair : List Str := ["stretch", "box", "pair"]
def R_with_pair : DS :=
  (dRet (dOp addD (dOp addD (dSl (dVar 0) dNoPart (dPart (dVar 1))) (dFrz (dLst (dCons (dVar 2) dNil)))) (dSl (dVar 0) (dPart (dOp addD (dVar 1) (dC (.int 1)))) dNoPart)))
def S_with_pair : DSp := fun ds O R => ∃ (st : List Pr) (b : Nat) (p : Pr) (d1 : D), ds = [d1, .int b, encP p] ∧ asL O d1 = some (encSt st) ∧ b < st.length ∧ st.length ≤ 1000 ∧ R (.lst (encSt (st.set b p))) O
theorem len_with_pair (ds : List D) (O : Own) (R : D → Own → Prop) (h : S_with_pair ds O R) : ds.length = 3 := by obtain ⟨_, _, _, _, rfl, _⟩ := h; rfl
theorem cut_lo {ds : List D} {b : Nat} (h : b ≤ ds.length) : cutD ds none (some ((b : Nat) : Int)) = ds.take b := by
  unfold cutD
  rw [HT.sIx_none, HT.sIx_nat, Nat.min_eq_left h]
  rfl
theorem cut_hi {ds : List D} {b : Nat} (h : b ≤ ds.length) : cutD ds (some ((b : Nat) : Int)) none = ds.drop b := by
  unfold cutD
  rw [HT.sIx_none, HT.sIx_nat, Nat.min_eq_left h, List.take_of_length_le (by rw [List.length_drop]; omega)]
theorem cut_set {st : List Pr} {b : Nat} {p : Pr} (h : b < st.length) : cutD (encSt st) none (some ((b : Nat) : Int)) ++ [encP p] ++ cutD (encSt st) (some (((b : Nat) : Int) + 1)) none = encSt (st.set b p) := by
  have e : ((b : Nat) : Int) + 1 = ((b + 1 : Nat) : Int) := rfl
  rw [e, cut_lo (by rw [encSt_length]; omega), cut_hi (by rw [encSt_length]; omega)]
  unfold encSt
  rw [List.map_set, List.set_eq_take_append_cons_drop, if_pos (by rw [List.length_map]; exact h), List.append_assoc]
  rfl
theorem sem_with_pair (ds : List D) (O : Own) (R : D → Own → Prop) (h : S_with_pair ds O R) : R_with_pair { nx := fun _ O' => Pure O R .non O', rt := Pure O R } (startD N_with_pair ds) O := by
  obtain ⟨st, b, p, d1, rfl, h1, hb, hl, h⟩ := h
  have l1 : (cutD (encSt st) none (some ((b : Nat) : Int))).length = b := by rw [cut_lo (by rw [encSt_length]; omega), List.length_take, encSt_length]; omega
  have l2 : (cutD (encSt st) (some (((b : Nat) : Int) + 1)) none).length ≤ 1000 := by
    have e : ((b : Nat) : Int) + 1 = ((b + 1 : Nat) : Int) := rfl
    rw [e, cut_hi (by rw [encSt_length]; omega), List.length_drop, encSt_length]
    omega
  rcases asL_cases h1 with rfl | ⟨k, rfl, -⟩
  all_goals
    walk_at "w"
    try rw [h1]
    try walk_at "w"
    refine ⟨by rw [l1]; simp; omega, ?_⟩
    walk_at "w"
    try rw [h1]
    try walk_at "w"
    refine ⟨by rw [List.length_append, l1]; simp; omega, ?_⟩
    rw [cut_set hb]
    exact Pure.same (.lst (encSt_hd _)) h
end DL

namespace DL
open PySem L2
local macro_rules | `(tactic| walk_at "w") => `(tactic| conv => whnf)
/-! ### widest -/
def N_widest : List Str := ["stretch", "wide", "pair"]
def R_widest : DS :=
  (dSeq (dAsg (dFrz (dLc (diL (dVar 0)) (dgName 2) dYes (dOp subD (dOp ixD (dVar 2) (dC (.int 1))) (dOp ixD (dVar 2) (dC (.int 0)))) [2])) (dgName 1))
  (dRet (dIdx (dVar 1) (dCall1 maxD (dCons (dVar 1) dNil)))))
def S_widest : DSp := fun ds O R => ∃ (st : List Pr) (d1 : D), ds = [d1] ∧ asL O d1 = some (encSt st) ∧ 0 < st.length ∧ st.length ≤ 1000 ∧
  ∀ (b : Nat) (p : Pr), st[b]? = some p → (∀ q ∈ st, q.2 - q.1 ≤ p.2 - p.1) → R (.int (b : Nat)) O
theorem len_widest (ds : List D) (O : Own) (R : D → Own → Prop) (h : S_widest ds O R) : ds.length = 1 := by obtain ⟨_, _, rfl, _⟩ := h; rfl
theorem first_of {y : Int} : ∀ {ns : List Int}, y ∈ ns → ∃ j : Nat, ns[j]? = some y ∧ ∀ i : Nat, i < j → ns[i]? ≠ some y
  | [], h => by cases h
  | x :: ns, h => by
    by_cases e : x = y
    · exact ⟨0, by rw [e]; rfl, fun i hi => by omega⟩
    · obtain ⟨j, h1, h2⟩ := first_of (ns := ns) ((List.mem_cons.mp h).resolve_left fun z => e z.symm)
      refine ⟨j + 1, h1, fun i hi => ?_⟩
      cases i with
      | zero => intro z; exact e (Option.some.inj z)
      | succ i => exact h2 i (by omega)
theorem max_of : ∀ (ns : List Int), 0 < ns.length → ∃ k, k ∈ ns ∧ ∀ y ∈ ns, y ≤ k
  | [], h => by simp at h
  | [x], _ => ⟨x, List.mem_cons_self, fun y hy => by simp at hy; omega⟩
  | x :: y :: ns, _ => by
    obtain ⟨k, h1, h2⟩ := max_of (y :: ns) (by simp)
    by_cases e : x ≤ k
    · exact ⟨k, List.mem_cons_of_mem _ h1, fun z hz => (List.mem_cons.mp hz).elim (fun q => by omega) (h2 z)⟩
    · exact ⟨x, List.mem_cons_self, fun z hz => (List.mem_cons.mp hz).elim (fun q => by omega) (fun q => by have := h2 z q; omega)⟩
theorem sem_widest (ds : List D) (O : Own) (R : D → Own → Prop) (h : S_widest ds O R) : R_widest { nx := fun _ O' => Pure O R .non O', rt := Pure O R } (startD N_widest ds) O := by
  obtain ⟨st, d1, rfl, h1, h0, hn, h⟩ := h
  walk_at "w"
  rw [h1]
  refine lc_list encP (fun p => .int (p.2 - p.1)) h1 st [] (fun p _ Q q => q) (by simp; omega) ?_
  have e : ([] : List D) ++ st.map (fun p => D.int (p.2 - p.1)) = (st.map fun p => p.2 - p.1).map D.int := by rw [List.map_map]; rfl
  rw [e]
  walk_at "w"
  rw [intsD_map]
  refine ⟨by simpa using h0, fun k hk hm => ?_⟩
  walk_at "w"
  rw [intsD_map]
  obtain ⟨j, j1, j2⟩ := first_of hk
  refine ⟨j, j1, j2, Pure.same (.int _) ?_⟩
  rw [List.getElem?_map] at j1
  cases g : st[j]? with
  | none => rw [g] at j1; cases j1
  | some p =>
    rw [g] at j1
    cases j1
    exact h j p g fun q hq => hm _ (List.mem_map.mpr ⟨q, hq, rfl⟩)
/-! ### trees -/
inductive Tr where
  | sum (i : Int) | cut (b m : Int) (l r : Tr)
def Tr.dep : Tr → Nat
  | .sum _ => 1
  | .cut _ _ l r => 1 + max l.dep r.dep
def encT : Tr → D
  | .sum i => .tup [.str "sum", .int i]
  | .cut b m l r => .tup [.str "cut", .int b, .int m, encT l, encT r]
def isT (ss : List Sm) : List Pr → Tr → Bool
  | st, .sum i => if 0 ≤ i ∧ i < ss.length then decide (0 < leastS (ss.getD i.toNat ([], 0)) st) else false
  | st, .cut b m l r => if 0 ≤ b ∧ b < st.length then
      if (st.getD b.toNat (0, 0)).1 ≤ m ∧ m < (st.getD b.toNat (0, 0)).2 then isT ss (st.set b.toNat ((st.getD b.toNat (0, 0)).1, m)) l && isT ss (st.set b.toNat (m + 1, (st.getD b.toNat (0, 0)).2)) r else false
    else false
theorem encT_non (t : Tr) : isNon (encT t) = false := by cases t <;> rfl
theorem encT_hd {n : Nat} : ∀ t : Tr, Hd n (encT t)
  | .sum i => .tup (.cons (.str _) (.cons (.int _) .nil))
  | .cut b m l r => .tup (.cons (.str _) (.cons (.int _) (.cons (.int _) (.cons (encT_hd l) (.cons (encT_hd r) .nil)))))
/-- a filling in a stretch -/
def inSt : List Int → List Pr → Prop
  | [], [] => True
  | x :: f, p :: st => p.1 ≤ x ∧ x ≤ p.2 ∧ inSt f st
  | _, _ => False
def wid : List Pr → Nat
  | [] => 0
  | p :: st => (p.2 - p.1).toNat + wid st
theorem wid_set : ∀ {st : List Pr} {b : Nat} {p q : Pr}, st[b]? = some p → (q.2 - q.1).toNat < (p.2 - p.1).toNat → wid (st.set b q) < wid st
  | [], b, p, q, h, _ => by cases h
  | r :: st, 0, p, q, h, l => by cases h; show _ + wid st < _ + wid st; omega
  | r :: st, b + 1, p, q, h, l => by
    have := wid_set (st := st) (b := b) (p := p) (q := q) h l
    show _ + wid (st.set b q) < _ + wid st
    omega
theorem inSt_set : ∀ {st : List Pr} {b : Nat} {p q : Pr} {f : List Int}, st[b]? = some p → p.1 ≤ q.1 → q.2 ≤ p.2 → inSt f (st.set b q) → inSt f st
  | [], b, p, q, f, h, _, _, _ => by cases h
  | r :: st, 0, p, q, [], h, _, _, g => g.elim
  | r :: st, 0, p, q, x :: f, h, l, u, g => by
    cases h
    obtain ⟨g1, g2, g3⟩ := g
    exact ⟨by omega, by omega, g3⟩
  | r :: st, b + 1, p, q, [], h, _, _, g => g.elim
  | r :: st, b + 1, p, q, x :: f, h, l, u, g => by
    obtain ⟨g1, g2, g3⟩ := g
    exact ⟨g1, g2, inSt_set (st := st) h l u g3⟩
theorem inSt_point : ∀ {st : List Pr}, (∀ p ∈ st, p.1 = p.2) → inSt (st.map (·.1)) st
  | [], _ => trivial
  | p :: st, h => ⟨Int.le_refl _, Int.le_of_eq (h p List.mem_cons_self), inSt_point fun q hq => h q (List.mem_cons_of_mem _ hq)⟩
theorem least_point : ∀ (ns : List Int) (st : List Pr), (∀ p ∈ st, p.1 = p.2) → ldot ns st = dot ns (st.map (·.1))
  | [], st, _ => by unfold ldot dot; rfl
  | n :: ns, [], _ => by unfold ldot dot; rfl
  | n :: ns, p :: st, h => by
    have e := h p List.mem_cons_self
    show mn (n * p.1) (n * p.2) + ldot ns st = n * p.1 + dot ns (st.map (·.1))
    rw [least_point ns st fun q hq => h q (List.mem_cons_of_mem _ hq), ← e]
    unfold mn
    rw [if_neg (by omega)]
end DL

namespace DL
open PySem L2
local macro_rules | `(tactic| walk_at "w") => `(tactic| conv => whnf)
/-! ### tried -/
structure StOk (st : List Pr) (ss : List Sm) : Prop where
  pos : 0 < st.length
  few : st.length ≤ 100
  ssf : ss.length ≤ 1000
  ok : ∀ s ∈ ss, SmOk st.length s
  le : ∀ p ∈ st, p.1 ≤ p.2
  bd : StB st
theorem StOk.set {st : List Pr} {ss : List Sm} (h : StOk st ss) (b : Nat) {q : Pr} (e : q.1 ≤ q.2) (l : (-100 ≤ q.1 ∧ q.1 ≤ 100) ∧ -100 ≤ q.2 ∧ q.2 ≤ 100) : StOk (st.set b q) ss := ⟨by rw [List.length_set]; exact h.pos, by rw [List.length_set]; exact h.few, h.ssf, by rw [List.length_set]; exact h.ok, fun p hp => by
  rcases List.mem_or_eq_of_mem_set hp with z | z
  · exact h.le p z
  · rw [z]; exact e, h.bd.set b l⟩
def S_tried : Nat → DSp
  | 0 => fun _ _ _ => False
  | n + 1 => fun ds O R => ∃ (st : List Pr) (ss : List Sm) (d1 d2 : D), ds = [d1, d2] ∧ asL O d1 = some (encSt st) ∧ asL O d2 = some (encSs ss) ∧ StOk st ss ∧ wid st < n + 1 ∧
    (∀ t : Tr, isT ss st t = true → t.dep ≤ n + 1 → R (.tup [encT t, .non]) O) ∧ ∀ f : List Int, inSt f st → (∀ s ∈ ss, valS s f ≤ 0) → R (.tup [.non, .lst (encI f)]) O
def N_tried : List Str := ["stretch", "some", "at", "box", "pair", "one", "middle", "below", "above"]
def R_tried (n : Nat) : DS :=
  (dSeq (dAsg (dCall S_over (dCons (dVar 0) (dCons (dVar 1) dNil))) (dgName 2))
  (dSeq (dIfS (dTest (dOp ltD (dVar 2) (dCall1 lenD (dCons (dVar 1) dNil)))) (dRet (dTup (dCons (dTup (dCons (dC (.str "sum")) (dCons (dVar 2) dNil))) (dCons (dC .non) dNil)))) dNext)
  (dSeq (dAsg (dCall S_widest (dCons (dVar 0) dNil)) (dgName 3))
  (dSeq (dAsg (dOp ixD (dVar 0) (dVar 3)) (dgName 4))
  (dSeq (dIfS (dTest (dOp eqD (dOp ixD (dVar 4) (dC (.int 0))) (dOp ixD (dVar 4) (dC (.int 1))))) (dRet (dTup (dCons (dC .non) (dCons (dFrz (dLc (diL (dVar 0)) (dgName 5) dYes (dOp ixD (dVar 5) (dC (.int 0))) [5])) dNil)))) dNext)
  (dSeq (dAsg (dOp divD (dOp addD (dOp ixD (dVar 4) (dC (.int 0))) (dOp ixD (dVar 4) (dC (.int 1)))) (dC (.int 2))) (dgName 6))
  (dSeq (dAsg (dCall (S_tried n) (dCons (dCall S_with_pair (dCons (dVar 0) (dCons (dVar 3) (dCons (dTup (dCons (dOp ixD (dVar 4) (dC (.int 0))) (dCons (dVar 6) dNil))) dNil)))) (dCons (dVar 1) dNil))) (dgName 7))
  (dSeq (dIfS (dTest (dOp isD (dOp ixD (dVar 7) (dC (.int 0))) (dC .non))) (dRet (dVar 7)) dNext)
  (dSeq (dAsg (dCall (S_tried n) (dCons (dCall S_with_pair (dCons (dVar 0) (dCons (dVar 3) (dCons (dTup (dCons (dOp addD (dVar 6) (dC (.int 1))) (dCons (dOp ixD (dVar 4) (dC (.int 1))) dNil))) dNil)))) (dCons (dVar 1) dNil))) (dgName 8))
  (dSeq (dIfS (dTest (dOp isD (dOp ixD (dVar 8) (dC (.int 0))) (dC .non))) (dRet (dVar 8)) dNext)
  (dRet (dTup (dCons (dTup (dCons (dC (.str "cut")) (dCons (dVar 3) (dCons (dVar 6) (dCons (dOp ixD (dVar 7) (dC (.int 0))) (dCons (dOp ixD (dVar 8) (dC (.int 0))) dNil)))))) (dCons (dC .non) dNil))))))))))))))
theorem len_tried (n : Nat) (ds : List D) (O : Own) (R : D → Own → Prop) (h : S_tried (n + 1) ds O R) : ds.length = 2 := by obtain ⟨_, _, _, _, rfl, _⟩ := h; rfl
theorem sem_tried (n : Nat) (ds : List D) (O : Own) (R : D → Own → Prop) (h : S_tried (n + 1) ds O R) : R_tried n { nx := fun _ O' => Pure O R .non O', rt := Pure O R } (startD N_tried ds) O := by
  obtain ⟨st, ss, d1, d2, rfl, h1, h2, ok, hw, ht, hf⟩ := h
  rcases asL_cases h1 with rfl | ⟨k1, rfl, -⟩ <;> rcases asL_cases h2 with rfl | ⟨k2, rfl, -⟩
  all_goals
    refine ⟨st, ss, _, _, rfl, h1, h2, ok.ssf, ok.ok, ok.bd, ?_⟩
    walk_at "w"
    try (rw [h2]; walk_at "w")
    rw [encSs_length]
    refine ifD (fun e => ?_) (fun e => ?_)
    · have e' : overS st ss < ss.length := by omega
      have g := List.findIdx_getElem (xs := ss) (p := fun s => decide (0 < leastS s st)) (w := e')
      refine Pure.same (.tup (.cons (.tup (.cons (.str _) (.cons (.int _) .nil))) (.cons .non .nil))) (ht (.sum (overS st ss : Nat)) ?_ (by show 1 ≤ n + 1; omega))
      unfold isT
      rw [if_pos ⟨by omega, by omega⟩, Int.toNat_natCast, List.getD_eq_getElem?_getD, List.getElem?_eq_getElem e']
      exact g
    have hno : ∀ s ∈ ss, leastS s st ≤ 0 := fun s hs => by
      have g : overS st ss = ss.length := by
        have := List.findIdx_le_length (xs := ss) (p := fun s => decide (0 < leastS s st))
        unfold overS at e ⊢
        omega
      have := List.findIdx_eq_length.mp g s hs
      have := of_decide_eq_false this
      omega
    refine ⟨st, _, rfl, h1, ok.pos, by have := ok.few; omega, fun b p hp hm => ?_⟩
    have hb : b < st.length := (List.getElem?_eq_some_iff.mp hp).1
    have hpm : p ∈ st := List.mem_of_getElem? hp
    have ple := ok.le p hpm
    walk_at "w"
    try (rw [h1]; walk_at "w")
    rw [atD_nat (encSt_get hp)]
    walk_at "w"
    refine ifD (fun e1 => ?_) (fun e1 => ?_)
    · walk_at "w"
      try rw [h1]
      refine lc_list encP (fun p => .int p.1) h1 st [] (fun p _ Q q => q) (by have := ok.few; simp; omega) ?_
      have e2 : ([] : List D) ++ st.map (fun p => D.int p.1) = encI (st.map (·.1)) := by rw [encI, List.map_map]; rfl
      rw [e2]
      have hpt : ∀ q ∈ st, q.1 = q.2 := fun q hq => by have := hm q hq; have := ok.le q hq; omega
      refine Pure.same (.tup (.cons .non (.cons (.lst (encI_hd _)) .nil))) (hf (st.map (·.1)) (inSt_point hpt) fun s hs => ?_)
      have := hno s hs
      unfold leastS at this
      rw [least_point _ _ hpt] at this
      exact this
    walk_at "w"
    refine ⟨(by decide : (0 : Int) < 2 ∧ (2 : Int) < _), ?_⟩
    let m : Int := (p.1 + p.2) / 2
    have em : (p.1 + p.2) / 2 = m := rfl
    have m1 : p.1 ≤ m := by omega
    have m2 : m < p.2 := by omega
    have pb := ok.bd p hpm
    cases n with
    | zero =>
      have w0 : (p.2 - p.1).toNat ≤ wid st := by
        have : ∀ (l : List Pr), p ∈ l → (p.2 - p.1).toNat ≤ wid l := by
          intro l
          induction l with
          | nil => intro z; cases z
          | cons r l ih =>
            intro z
            show _ ≤ (r.2 - r.1).toNat + wid l
            rcases List.mem_cons.mp z with z | z
            · rw [z]; omega
            · have := ih z; omega
        exact this st hpm
      omega
    | succ n =>
      refine ⟨st, b, (p.1, m), _, rfl, h1, hb, by have := ok.few; omega, ?_⟩
      have sl : asL O (.lst (encSt (st.set b (p.1, m)))) = some (encSt (st.set b (p.1, m))) := rfl
      have su : asL O (.lst (encSt (st.set b (m + 1, p.2)))) = some (encSt (st.set b (m + 1, p.2))) := rfl
      have wl : wid (st.set b (p.1, m)) < wid st := wid_set hp (by show (m - p.1).toNat < _; omega)
      have wu : wid (st.set b (m + 1, p.2)) < wid st := wid_set hp (by show (p.2 - (m + 1)).toNat < _; omega)
      have gb : st.getD b (0, 0) = p := by rw [List.getD_eq_getElem?_getD, hp]; rfl
      refine ⟨st.set b (p.1, m), ss, _, _, rfl, sl, h2, ok.set b m1 ⟨pb.1, (by show -100 ≤ m; omega), (by show m ≤ 100; omega)⟩, by omega, fun tl il dl => ?_, fun f hif hall => ?_⟩
      · walk_at "w"
        refine ifF (encT_non tl) ?_
        refine ⟨st, b, (m + 1, p.2), _, rfl, h1, hb, by have := ok.few; omega, ?_⟩
        refine ⟨st.set b (m + 1, p.2), ss, _, _, rfl, su, h2, ok.set b (by show m + 1 ≤ p.2; omega) ⟨⟨(by show -100 ≤ m + 1; omega), (by show m + 1 ≤ 100; omega)⟩, pb.2⟩, by omega, fun tr ir dr => ?_, fun f hif hall => ?_⟩
        · walk_at "w"
          refine ifF (encT_non tr) ?_
          refine Pure.same (encT_hd (.cut b m tl tr) |> fun q => .tup (.cons q (.cons .non .nil))) (ht (.cut b m tl tr) ?_ (by show 1 + max tl.dep tr.dep ≤ n + 1 + 1; omega))
          unfold isT
          rw [if_pos ⟨by omega, by omega⟩, Int.toNat_natCast, gb, if_pos ⟨m1, m2⟩, il, ir]
          rfl
        · walk_at "w"
          exact Pure.same (.tup (.cons .non (.cons (.lst (encI_hd _)) .nil))) (hf f (inSt_set (q := (m + 1, p.2)) hp (by show p.1 ≤ m + 1; omega) (Int.le_refl _) hif) hall)
      · walk_at "w"
        exact Pure.same (.tup (.cons .non (.cons (.lst (encI_hd _)) .nil))) (hf f (inSt_set (q := (p.1, m)) hp (Int.le_refl _) (by show m ≤ p.2; omega) hif) hall)
/-! ### is_tree -/
def S_is_tree : Nat → DSp
  | 0 => fun _ _ _ => False
  | n + 1 => fun ds O R => ∃ (st : List Pr) (ss : List Sm) (t : Tr) (d1 d2 : D), ds = [d1, d2, encT t] ∧ asL O d1 = some (encSt st) ∧ asL O d2 = some (encSs ss) ∧ st.length ≤ 100 ∧ ss.length ≤ 1000 ∧ (∀ s ∈ ss, SmOk st.length s) ∧ StB st ∧ t.dep ≤ n + 1 ∧ R (.bl (isT ss st t)) O
def N_is_tree : List Str := ["stretch", "some", "tree", "pair"]
def R_is_tree (n : Nat) : DS :=
  (dSeq (dIfS (dTest (dOp eqD (dOp ixD (dVar 2) (dC (.int 0))) (dC (.str "sum")))) (dRet (dAndV (dChain leD ltD (dC (.int 0)) (dOp ixD (dVar 2) (dC (.int 1))) (dCall1 lenD (dCons (dVar 1) dNil))) (dOp gtD (dCall S_least (dCons (dOp ixD (dVar 1) (dOp ixD (dVar 2) (dC (.int 1)))) (dCons (dVar 0) dNil))) (dC (.int 0))))) dNext)
  (dSeq (dIfS (dNot (dTest (dChain leD ltD (dC (.int 0)) (dOp ixD (dVar 2) (dC (.int 1))) (dCall1 lenD (dCons (dVar 0) dNil))))) (dRet (dC (.bl false))) dNext)
  (dSeq (dAsg (dOp ixD (dVar 0) (dOp ixD (dVar 2) (dC (.int 1)))) (dgName 3))
  (dSeq (dIfS (dNot (dTest (dChain leD ltD (dOp ixD (dVar 3) (dC (.int 0))) (dOp ixD (dVar 2) (dC (.int 2))) (dOp ixD (dVar 3) (dC (.int 1)))))) (dRet (dC (.bl false))) dNext)
  (dSeq (dIfS (dNot (dTest (dCall (S_is_tree n) (dCons (dCall S_with_pair (dCons (dVar 0) (dCons (dOp ixD (dVar 2) (dC (.int 1))) (dCons (dTup (dCons (dOp ixD (dVar 3) (dC (.int 0))) (dCons (dOp ixD (dVar 2) (dC (.int 2))) dNil))) dNil)))) (dCons (dVar 1) (dCons (dOp ixD (dVar 2) (dC (.int 3))) dNil)))))) (dRet (dC (.bl false))) dNext)
  (dRet (dCall (S_is_tree n) (dCons (dCall S_with_pair (dCons (dVar 0) (dCons (dOp ixD (dVar 2) (dC (.int 1))) (dCons (dTup (dCons (dOp addD (dOp ixD (dVar 2) (dC (.int 2))) (dC (.int 1))) (dCons (dOp ixD (dVar 3) (dC (.int 1))) dNil))) dNil)))) (dCons (dVar 1) (dCons (dOp ixD (dVar 2) (dC (.int 4))) dNil))))))))))
theorem ok_sum : PyData.strOk "sum" = true := by decide +kernel
theorem ok_cut : PyData.strOk "cut" = true := by decide +kernel
theorem cut_ne : ¬ ("cut" : Str) = "sum" := by decide +kernel
theorem py_sum {O : Own} : pyD O 40 (.str "sum") = some (.str "sum") := Py.str (by decide +kernel) O 40 (by decide)
theorem py_cut {O : Own} : pyD O 40 (.str "cut") = some (.str "cut") := Py.str (by decide +kernel) O 40 (by decide)
theorem ss_eq : PyData.eqv (.str "sum") (.str "sum") = true := by rw [eqv_str]; exact decide_eq_true rfl
theorem cs_eq : PyData.eqv (.str "cut") (.str "sum") = false := by rw [eqv_str]; exact decide_eq_false (by decide +kernel)
theorem cc_eq : PyData.eqv (.str "cut") (.str "cut") = true := by rw [eqv_str]; exact decide_eq_true rfl
theorem isT_sum_no {ss : List Sm} {st : List Pr} {i : Int} (h : ¬ (0 ≤ i ∧ i < ss.length)) : isT ss st (.sum i) = false := by unfold isT; rw [if_neg h]
theorem isT_sum {ss : List Sm} {st : List Pr} {j : Nat} {s : Sm} (h : ss[j]? = some s) : isT ss st (.sum (j : Nat)) = decide (0 < leastS s st) := by
  have := (List.getElem?_eq_some_iff.mp h).1
  unfold isT
  rw [if_pos ⟨by omega, by omega⟩, Int.toNat_natCast, List.getD_eq_getElem?_getD, h]
  rfl
theorem isT_cut_no {ss : List Sm} {st : List Pr} {b m : Int} {l r : Tr} (h : ¬ (0 ≤ b ∧ b < st.length)) : isT ss st (.cut b m l r) = false := by unfold isT; rw [if_neg h]
theorem isT_cut_no2 {ss : List Sm} {st : List Pr} {j : Nat} {m : Int} {l r : Tr} {p : Pr} (h : st[j]? = some p) (g : ¬ (p.1 ≤ m ∧ m < p.2)) : isT ss st (.cut (j : Nat) m l r) = false := by
  have := (List.getElem?_eq_some_iff.mp h).1
  unfold isT
  rw [if_pos ⟨by omega, by omega⟩, Int.toNat_natCast, List.getD_eq_getElem?_getD, h]
  exact if_neg g
theorem isT_cut {ss : List Sm} {st : List Pr} {j : Nat} {m : Int} {l r : Tr} {p : Pr} (h : st[j]? = some p) (g : p.1 ≤ m ∧ m < p.2) : isT ss st (.cut (j : Nat) m l r) = (isT ss (st.set j (p.1, m)) l && isT ss (st.set j (m + 1, p.2)) r) := by
  have := (List.getElem?_eq_some_iff.mp h).1
  conv => lhs; unfold isT
  rw [if_pos ⟨by omega, by omega⟩, Int.toNat_natCast, List.getD_eq_getElem?_getD, h]
  exact if_pos g
theorem len_is_tree (n : Nat) (ds : List D) (O : Own) (R : D → Own → Prop) (h : S_is_tree (n + 1) ds O R) : ds.length = 3 := by obtain ⟨_, _, _, _, _, rfl, _⟩ := h; rfl
theorem sem_is_tree (n : Nat) (ds : List D) (O : Own) (R : D → Own → Prop) (h : S_is_tree (n + 1) ds O R) : R_is_tree n { nx := fun _ O' => Pure O R .non O', rt := Pure O R } (startD N_is_tree ds) O := by
  obtain ⟨st, ss, t, d1, d2, rfl, h1, h2, hn, hm, hs, hb0, hd, h⟩ := h
  rcases asL_cases h1 with rfl | ⟨k1, rfl, -⟩ <;> rcases asL_cases h2 with rfl | ⟨k2, rfl, -⟩
  all_goals
    cases t with
    | sum i =>
      walk_at "w"
      refine strT ok_sum ?_
      walk_at "w"
      refine ifD (fun e1 => ?_) (fun e1 => ?_)
      · walk_at "w"
        try (rw [h2]; walk_at "w")
        rw [encSs_length]
        refine ifD (fun e2 => ?_) (fun e2 => ?_)
        · obtain ⟨j, rfl⟩ : ∃ j : Nat, i = (j : Int) := ⟨i.toNat, by omega⟩
          have gj : ss[j]? = some ss[j] := List.getElem?_eq_getElem (by omega)
          walk_at "w"
          try (rw [h2]; walk_at "w")
          rw [atD_nat (encSs_get gj)]
          obtain ⟨l1, l2, _⟩ := hs _ (List.getElem_mem (by omega : j < ss.length))
          refine ⟨ss[j], st, _, rfl, h1, l1, l2, hb0, ?_⟩
          rw [isT_sum gj] at h
          exact Pure.same (.bl _) h
        · walk_at "w"
          rw [isT_sum_no (by omega)] at h
          exact Pure.same (.bl _) h
      · walk_at "w"
        rw [isT_sum_no (by omega)] at h
        exact Pure.same (.bl _) h
    | cut b m l r =>
      walk_at "w"
      refine strF ok_cut ok_sum cut_ne ?_
      walk_at "w"
      refine ifD (fun e1 => ?_) (fun e1 => ?_)
      · walk_at "w"
        try (rw [h1]; walk_at "w")
        rw [encSt_length]
        refine ifNB (decide_cases () (fun e2 => ?_) (fun e2 => ?_))
        · obtain ⟨j, rfl⟩ : ∃ j : Nat, b = (j : Int) := ⟨b.toNat, by omega⟩
          have gj : st[j]? = some st[j] := List.getElem?_eq_getElem (by omega)
          have pb := hb0 _ (List.mem_of_getElem? gj)
          generalize ep : st[j]'(by omega) = p at gj pb
          walk_at "w"
          try (rw [h1]; walk_at "w")
          rw [atD_nat (encSt_get gj)]
          walk_at "w"
          refine ifD (fun e3 => ?_) (fun e3 => ?_)
          · walk_at "w"
            refine ifNB (decide_cases () (fun e4 => ?_) (fun e4 => ?_))
            · cases n with
              | zero => have : (1 : Nat) ≤ l.dep := by cases l <;> simp [Tr.dep] <;> omega
                        have : 1 + max l.dep r.dep ≤ 0 + 1 := hd
                        omega
              | succ n =>
                have hd' : 1 + max l.dep r.dep ≤ n + 1 + 1 := hd
                rw [isT_cut gj ⟨e3, e4⟩] at h
                refine ⟨st, j, (p.1, m), _, rfl, h1, by omega, by omega, ?_⟩
                refine ⟨st.set j (p.1, m), ss, l, _, _, rfl, rfl, h2, by rw [List.length_set]; exact hn, hm, by rw [List.length_set]; exact hs, hb0.set j ⟨pb.1, (by show -100 ≤ m; omega), (by show m ≤ 100; omega)⟩, by omega, ?_⟩
                refine ifNB ⟨fun e5 => ?_, fun e5 => ?_⟩
                · refine ⟨st, j, (m + 1, p.2), _, rfl, h1, by omega, by omega, ?_⟩
                  refine ⟨st.set j (m + 1, p.2), ss, r, _, _, rfl, rfl, h2, by rw [List.length_set]; exact hn, hm, by rw [List.length_set]; exact hs, hb0.set j ⟨⟨(by show -100 ≤ m + 1; omega), (by show m + 1 ≤ 100; omega)⟩, pb.2⟩, by omega, ?_⟩
                  rw [e5] at h
                  exact Pure.same (.bl _) h
                · rw [e5] at h
                  exact Pure.same (.bl _) h
            · walk_at "w"
              rw [isT_cut_no2 gj (by omega)] at h
              exact Pure.same (.bl _) h
          · walk_at "w"
            rw [isT_cut_no2 gj (by omega)] at h
            exact Pure.same (.bl _) h
        · walk_at "w"
          rw [isT_cut_no (by omega)] at h
          exact Pure.same (.bl _) h
      · walk_at "w"
        rw [isT_cut_no (by omega)] at h
        exact Pure.same (.bl _) h
end DL

namespace DL
open PySem L2
/-! ### the plain law: a tree is right -/
theorem mn_le {a lo hi x : Int} (h1 : lo ≤ x) (h2 : x ≤ hi) : mn (a * lo) (a * hi) ≤ a * x := by
  unfold mn
  by_cases e : 0 ≤ a
  · have h3 : a * lo ≤ a * x := Int.mul_le_mul_of_nonneg_left h1 e
    have h4 : a * x ≤ a * hi := Int.mul_le_mul_of_nonneg_left h2 e
    rw [if_neg (by omega)]
    exact h3
  · have h3 : a * x ≤ a * lo := Int.mul_le_mul_of_nonpos_left (by omega) h1
    have h4 : a * hi ≤ a * x := Int.mul_le_mul_of_nonpos_left (by omega) h2
    split <;> omega
theorem least_le : ∀ (ns : List Int) (st : List Pr) (f : List Int), inSt f st → ldot ns st ≤ dot ns f
  | [], _, _, _ => by unfold ldot dot; exact Int.le_refl _
  | _ :: _, [], [], _ => by unfold ldot dot; exact Int.le_refl _
  | n :: ns, p :: st, x :: f, h => by
    have ih := least_le ns st f h.2.2
    have := mn_le (a := n) h.1 h.2.1
    show mn (n * p.1) (n * p.2) + ldot ns st ≤ n * x + dot ns f
    omega
  | _ :: _, [], _ :: _, h => h.elim
  | _ :: _, _ :: _, [], h => h.elim
theorem inSt_cut : ∀ {st : List Pr} {b : Nat} {p : Pr} {f : List Int} (m : Int), st[b]? = some p → inSt f st → inSt f (st.set b (p.1, m)) ∨ inSt f (st.set b (m + 1, p.2))
  | [], b, p, f, m, h, _ => by cases h
  | r :: st, 0, p, [], m, h, g => g.elim
  | r :: st, 0, p, x :: f, m, h, g => by
    cases h
    obtain ⟨g1, g2, g3⟩ := g
    by_cases e : x ≤ m
    · exact .inl ⟨g1, e, g3⟩
    · exact .inr ⟨by show m + 1 ≤ x; omega, g2, g3⟩
  | r :: st, b + 1, p, [], m, h, g => g.elim
  | r :: st, b + 1, p, x :: f, m, h, g => by
    obtain ⟨g1, g2, g3⟩ := g
    rcases inSt_cut (st := st) m h g3 with z | z
    · exact .inl ⟨g1, g2, z⟩
    · exact .inr ⟨g1, g2, z⟩
theorem isT_sound (ss : List Sm) (f : List Int) : ∀ (t : Tr) (st : List Pr), isT ss st t = true → inSt f st → ∃ s ∈ ss, 0 < valS s f
  | .sum i, st, h, g => by
    unfold isT at h
    split at h
    · rename_i q
      have hi : i.toNat < ss.length := by omega
      rw [List.getD_eq_getElem?_getD, List.getElem?_eq_getElem hi] at h
      have h' := of_decide_eq_true h
      refine ⟨ss[i.toNat], List.getElem_mem hi, ?_⟩
      have := least_le ss[i.toNat].1 st f g
      have h2 : 0 < ss[i.toNat].2 + ldot ss[i.toNat].1 st := h'
      unfold valS
      omega
    · cases h
  | .cut b m l r, st, h, g => by
    unfold isT at h
    split at h
    · rename_i q
      split at h
      · have hb : b.toNat < st.length := by omega
        have e : st.getD b.toNat (0, 0) = st[b.toNat] := by rw [List.getD_eq_getElem?_getD, List.getElem?_eq_getElem hb]; rfl
        rw [e] at h
        obtain ⟨h1, h2⟩ := Bool.and_eq_true_iff.mp h
        rcases inSt_cut m (List.getElem?_eq_getElem hb) g with z | z
        · exact isT_sound ss f l _ h1 z
        · exact isT_sound ss f r _ h2 z
      · cases h
    · cases h
end DL

/-! Programs: rows as data, and what the law's making of a program gives. -/
namespace DL
open PySem L2
local macro_rules | `(tactic| walk_at "w") => `(tactic| conv => whnf)
inductive Row where
  | put (b : Nat) (s : Sm) | say (s : Sm) | ite (s : Sm) (a b : List Row) | loop (s : Sm) (ws : List Sm) (body : List Row)
mutual
def encR : Row → D
  | .put b s => .tup [.str "put", .int (b : Nat), encS s]
  | .say s => .tup [.str "say", encS s]
  | .ite s a b => .tup [.str "if", encS s, .tup (encRs a), .tup (encRs b)]
  | .loop s ws body => .tup [.str "loop", encS s, .tup (encSs ws), .tup (encRs body)]
def encRs : List Row → List D
  | [] => []
  | r :: rs => encR r :: encRs rs
end
mutual
/-- a row that keeps the document's bounds, over n boxes, with at most d loops and ifs within -/
def okR (n : Nat) : Row → Nat → Prop
  | .put b s, _ => b < n ∧ SmW n s
  | .say s, _ => SmW n s
  | .ite s a b, d => 0 < d ∧ SmW n s ∧ okRs n a (d - 1) ∧ okRs n b (d - 1)
  | .loop s ws body, d => 0 < d ∧ SmW n s ∧ ws.length ≤ 3 ∧ (∀ w ∈ ws, SmW n w) ∧ okRs n body (d - 1)
def okRs (n : Nat) : List Row → Nat → Prop
  | [], _ => True
  | r :: rs, d => okR n r d ∧ okRs n rs d
end
mutual
def cntR : Row → Nat
  | .put _ _ => 1
  | .say _ => 1
  | .ite _ a b => 1 + cnts a + cnts b
  | .loop _ _ body => 1 + cnts body
def cnts : List Row → Nat
  | [] => 0
  | r :: rs => cntR r + cnts rs
end
theorem encRs_map : ∀ rs : List Row, encRs rs = rs.map encR
  | [] => rfl
  | r :: rs => by show encR r :: encRs rs = encR r :: rs.map encR; rw [encRs_map rs]
theorem encRs_length (rs : List Row) : (encRs rs).length = rs.length := by rw [encRs_map, List.length_map]
theorem encRs_get {rs : List Row} {i : Nat} {r : Row} (h : rs[i]? = some r) : (encRs rs)[i]? = some (encR r) := by rw [encRs_map, List.getElem?_map, h]; rfl
theorem encRs_append (a b : List Row) : encRs (a ++ b) = encRs a ++ encRs b := by rw [encRs_map, encRs_map, encRs_map, List.map_append]
theorem okRs_mem {n d : Nat} : ∀ {rs : List Row}, okRs n rs d → ∀ r ∈ rs, okR n r d
  | [], _, _, h => by cases h
  | r :: rs, h, x, hx => by
    rcases List.mem_cons.mp hx with e | e
    · rw [e]; exact h.1
    · exact okRs_mem h.2 x e
theorem okRs_of {n d : Nat} : ∀ {rs : List Row}, (∀ r ∈ rs, okR n r d) → okRs n rs d
  | [], _ => trivial
  | r :: rs, h => ⟨h r List.mem_cons_self, okRs_of fun x hx => h x (List.mem_cons_of_mem _ hx)⟩
theorem cnts_append : ∀ (a b : List Row), cnts (a ++ b) = cnts a + cnts b
  | [], b => by show cnts b = 0 + cnts b; omega
  | r :: a, b => by show cntR r + cnts (a ++ b) = cntR r + cnts a + cnts b; rw [cnts_append a b]; omega
theorem cntR_pos : ∀ r : Row, 1 ≤ cntR r
  | .put _ _ => Nat.le_refl _
  | .say _ => Nat.le_refl _
  | .ite _ a b => by show 1 ≤ 1 + cnts a + cnts b; omega
  | .loop _ _ b => by show 1 ≤ 1 + cnts b; omega
theorem len_le_cnts : ∀ rs : List Row, rs.length ≤ cnts rs
  | [] => Nat.le_refl _
  | r :: rs => by have := cntR_pos r; have := len_le_cnts rs; show rs.length + 1 ≤ cntR r + cnts rs; omega
mutual
theorem encR_hd {n : Nat} : ∀ r : Row, Hd n (encR r)
  | .put b s => .tup (.cons (.str _) (.cons (.int _) (.cons (encS_hd s) .nil)))
  | .say s => .tup (.cons (.str _) (.cons (encS_hd s) .nil))
  | .ite s a b => .tup (.cons (.str _) (.cons (encS_hd s) (.cons (.tup (encRs_hd a)) (.cons (.tup (encRs_hd b)) .nil))))
  | .loop s ws b => .tup (.cons (.str _) (.cons (encS_hd s) (.cons (.tup (encSs_hd ws)) (.cons (.tup (encRs_hd b)) .nil))))
theorem encRs_hd {n : Nat} : ∀ rs : List Row, HdL n (encRs rs)
  | [] => .nil
  | r :: rs => .cons (encR_hd r) (encRs_hd rs)
end
/-! ### _law_tops -/
structure TpOk (tp : List Nat) : Prop where
  pos : 1 ≤ tp.length
  few : tp.length ≤ 3
  le : ∀ t ∈ tp, t ≤ 9
def encN (tp : List Nat) : List D := tp.map fun t => D.int ((t : Nat) : Int)
def N_l_tops : List Str := ["_law_script", "_law_cell", "_law_many", "_law_most", "_law_found", "_law_k"]
def R_l_tops : DS :=
  (dSeq (dAsg (dCall S_l_at (dCons (dVar 0) (dCons (dC (.int 0)) dNil))) (dgName 1))
  (dSeq (dAsg (dOp ixD (dFrz (dLst (dCons (dC (.int 1)) (dCons (dC (.int 2)) (dCons (dC (.int 2)) (dCons (dC (.int 3)) dNil)))))) (dOp modD (dVar 1) (dC (.int 4)))) (dgName 2))
  (dSeq (dAsg (dOp ixD (dFrz (dLst (dCons (dC (.int 10)) (dCons (dC (.int 4)) (dCons (dC (.int 3)) dNil))))) (dOp subD (dVar 2) (dC (.int 1)))) (dgName 3))
  (dSeq (dAsg (dNew (dLc (diR1 (dVar 2)) (dgName 5) dYes (dOp modD (dCall S_l_at (dCons (dVar 0) (dCons (dOp addD (dC (.int 1)) (dVar 5)) dNil))) (dVar 3)) [5])) (dgName 4))
  (dSeq (dIfS (dTest (dOp eqD (dOp modD (dOp divD (dVar 1) (dC (.int 4))) (dC (.int 16))) (dC (.int 1)))) (dAsg (dC (.int 9)) (dgSub (dVar 4) (dOp modD (dOp divD (dVar 1) (dC (.int 64))) (dVar 2)))) dNext)
  (dRet (dVar 4)))))))
def S_l_tops : DSp := fun ds O R => ∃ ns : List Int, ds = [.scr ns] ∧ ∀ tp, TpOk tp → R (.lst (encN tp)) O
theorem len_l_tops (ds : List D) (O : Own) (R : D → Own → Prop) (h : S_l_tops ds O R) : ds.length = 1 := by obtain ⟨_, rfl, _⟩ := h; rfl
theorem encN_length (tp : List Nat) : (encN tp).length = tp.length := List.length_map ..
theorem encN_hd {n : Nat} (tp : List Nat) : HdL n (encN tp) := HdL.of fun d hd => by
  obtain ⟨p, _, rfl⟩ := List.mem_map.mp hd
  exact .int _
theorem encN_get {tp : List Nat} {i t : Nat} (h : tp[i]? = some t) : (encN tp)[i]? = some (.int (t : Nat)) := by unfold encN; rw [List.getElem?_map, h]; rfl
theorem sem_l_tops (ds : List D) (O : Own) (R : D → Own → Prop) (h : S_l_tops ds O R) : R_l_tops { nx := fun _ O' => Pure O R .non O', rt := Pure O R } (startD N_l_tops ds) O := by
  obtain ⟨ns, rfl, h⟩ := h
  refine ⟨ns, 0, rfl, by decide, ?_⟩
  generalize ec : cellAt ns 0 = c
  have c0 : 0 ≤ c := ec ▸ cellAt_lo _ _
  walk_at "w"
  refine ⟨(by decide : (0 : Int) < 4), ?_⟩
  obtain ⟨M, hM, M1, M3⟩ : ∃ M : Nat, atD [D.int 1, .int 2, .int 2, .int 3] (c % 4) = some (.int (M : Nat)) ∧ 1 ≤ M ∧ M ≤ 3 := by
    have : c % 4 = 0 ∨ c % 4 = 1 ∨ c % 4 = 2 ∨ c % 4 = 3 := by omega
    rcases this with e | e | e | e <;> rw [e]
    · exact ⟨1, rfl, by decide, by decide⟩
    · exact ⟨2, rfl, by decide, by decide⟩
    · exact ⟨2, rfl, by decide, by decide⟩
    · exact ⟨3, rfl, by decide, by decide⟩
  obtain ⟨W, hW, W1, W10⟩ : ∃ W : Nat, atD [D.int 10, .int 4, .int 3] ((M : Int) - 1) = some (.int (W : Nat)) ∧ 1 ≤ W ∧ W ≤ 10 := by
    have : M = 1 ∨ M = 2 ∨ M = 3 := by omega
    rcases this with rfl | rfl | rfl
    · exact ⟨10, rfl, by decide, by decide⟩
    · exact ⟨4, rfl, by decide, by decide⟩
    · exact ⟨3, rfl, by decide, by decide⟩
  walk_at "w"
  rw [hM]
  walk_at "w"
  rw [hW]
  walk_at "w"
  refine ⟨by omega, ?_⟩
  rw [Int.toNat_natCast]
  refine lc_rng (fun j => .int (((cellAt ns (1 + (j : Int)) % (W : Int)).toNat : Nat) : Int)) trivial (by omega) (fun j hj Q q => ?_) ?_
  · refine ⟨ns, 1 + (j : Int), rfl, by omega, (by omega : (0 : Int) < (W : Nat)), ?_⟩
    have := Int.emod_nonneg (cellAt ns (1 + (j : Int))) (b := (W : Int)) (by omega)
    rw [Int.toNat_of_nonneg this] at q
    exact q
  obtain ⟨tp, etp⟩ : ∃ tp : List Nat, tp = (List.range M).map fun j : Nat => (cellAt ns (1 + (j : Int)) % (W : Int)).toNat := ⟨_, rfl⟩
  have e1 : (List.range M).map (fun j : Nat => D.int (((cellAt ns (1 + (j : Int)) % (W : Int)).toNat : Nat) : Int)) = encN tp := by rw [etp]; unfold encN; rw [List.map_map]; rfl
  rw [e1]
  have l1 : tp.length = M := by rw [etp]; simp
  have t9 : ∀ t ∈ tp, t ≤ 9 := fun t ht => by
    rw [etp] at ht
    obtain ⟨j, _, rfl⟩ := List.mem_map.mp ht
    have := Int.emod_lt_of_pos (cellAt ns (1 + (j : Int))) (b := (W : Int)) (by omega)
    omega
  walk_at "w"
  refine ⟨(by decide : (0 : Int) < 4 ∧ (4 : Int) < _), ?_⟩
  walk_at "w"
  refine ⟨(by decide : (0 : Int) < 16), ?_⟩
  refine ifD (fun _ => ?_) (fun _ => ?_)
  · walk_at "w"
    refine ⟨(by decide : (0 : Int) < 64 ∧ (64 : Int) < _), ?_⟩
    walk_at "w"
    refine ⟨(by omega : (0 : Int) < (M : Nat)), ?_⟩
    walk_at "w"
    rw [top_get]
    have c1 := Int.emod_nonneg (c / 64) (b := (M : Int)) (by omega)
    have c2 := Int.emod_lt_of_pos (c / 64) (b := (M : Int)) (by omega)
    obtain ⟨k, hk⟩ : ∃ k : Nat, c / 64 % (M : Int) = (k : Int) := ⟨(c / 64 % (M : Int)).toNat, by omega⟩
    walk_at "w"
    have e2 : ixN (encN tp).length (c / 64 % (M : Int)) = some k := by
      unfold ixN
      rw [hk, encN_length, if_pos (by omega), if_pos (by omega), Int.toNat_natCast]
    rw [e2]
    walk_at "w"
    rw [top_set]
    have e3 : (encN tp).set k (.int 9) = encN (tp.set k 9) := by unfold encN; rw [List.map_set]; rfl
    rw [e3]
    refine ⟨.lst (encN (tp.set k 9)), top_take, .own (Nat.le_refl _) top_get (ResL.same (encN_hd _)), h _ ⟨by rw [List.length_set]; omega, by rw [List.length_set]; omega, fun t ht => ?_⟩⟩
    rcases List.mem_or_eq_of_mem_set ht with z | z
    · exact t9 t z
    · omega
  · walk_at "w"
    exact ⟨.lst (encN tp), top_take, .own (Nat.le_refl _) top_get (ResL.same (encN_hd _)), h _ ⟨by omega, by omega, t9⟩⟩
/-! ### _law_into -/
def N_l_into : List Str := ["_law_cell", "_law_many", "_law_box", "_law_way"]
def R_l_into : DS :=
  (dSeq (dAsg (dOp modD (dVar 0) (dC (.int 7))) (dgName 3))
  (dSeq (dIfS (dTest (dOp ltD (dVar 3) (dC (.int 3)))) (dRet (dCall S_l_unit (dCons (dVar 1) (dCons (dVar 2) (dCons (dC (.int 1)) (dCons (dOp ixD (dFrz (dLst (dCons (dC (.int 1)) (dCons (dC (.int 1)) (dCons (negD (dC (.int 1))) dNil))))) (dVar 3)) dNil)))))) dNext)
  (dSeq (dIfS (dTest (dOp eqD (dVar 3) (dC (.int 3)))) (dRet (dCall S_l_unit (dCons (dVar 1) (dCons (dVar 2) (dCons (dC (.int 0)) (dCons (dOp modD (dOp divD (dVar 0) (dC (.int 7))) (dC (.int 5))) dNil)))))) dNext)
  (dSeq (dIfS (dTest (dOp eqD (dVar 3) (dC (.int 4)))) (dRet (dCall S_l_unit (dCons (dVar 1) (dCons (dOp modD (dOp divD (dVar 0) (dC (.int 7))) (dVar 1)) (dCons (dC (.int 1)) (dCons (dOp subD (dOp modD (dOp divD (dVar 0) (dC (.int 21))) (dC (.int 3))) (dC (.int 1))) dNil)))))) dNext)
  (dRet (dCall S_l_word (dCons (dOp divD (dVar 0) (dC (.int 7))) (dCons (dVar 1) dNil))))))))
def S_l_into : DSp := fun ds O R => ∃ (c : Int) (n b : Nat), ds = [.int c, .int n, .int b] ∧ 0 ≤ c ∧ 1 ≤ n ∧ n ≤ 3 ∧ b < n ∧ ∀ s, SmW n s → R (encS s) O
theorem len_l_into (ds : List D) (O : Own) (R : D → Own → Prop) (h : S_l_into ds O R) : ds.length = 3 := by obtain ⟨_, _, _, rfl, _⟩ := h; rfl
theorem sem_l_into (ds : List D) (O : Own) (R : D → Own → Prop) (h : S_l_into ds O R) : R_l_into { nx := fun _ O' => Pure O R .non O', rt := Pure O R } (startD N_l_into ds) O := by
  obtain ⟨c, n, b, rfl, hc, hn1, hn3, hb, h⟩ := h
  walk_at "w"
  refine ⟨(by decide : (0 : Int) < 7), ?_⟩
  walk_at "w"
  refine ifD (fun e => ?_) (fun e => ?_)
  · walk_at "w"
    obtain ⟨x, hx, x1⟩ : ∃ x : Int, atD [D.int 1, .int 1, .int (-1)] (c % 7) = some (.int x) ∧ (-1 ≤ x ∧ x ≤ 1) := by
      have : c % 7 = 0 ∨ c % 7 = 1 ∨ c % 7 = 2 := by omega
      rcases this with e | e | e <;> rw [e]
      · exact ⟨1, rfl, by decide⟩
      · exact ⟨1, rfl, by decide⟩
      · exact ⟨-1, rfl, by decide⟩
    rw [hx]
    exact ⟨n, b, 1, x, rfl, by omega, hb, Pure.same (encS_hd _) (h _ (unitS_ok (by decide) (by decide) (by omega) (by omega)))⟩
  walk_at "w"
  refine ifD (fun e => ?_) (fun e => ?_)
  · walk_at "w"
    refine ⟨(by decide : (0 : Int) < 7 ∧ (7 : Int) < _), ?_⟩
    walk_at "w"
    refine ⟨(by decide : (0 : Int) < 5), ?_⟩
    exact ⟨n, b, 0, c / 7 % 5, rfl, by omega, hb, Pure.same (encS_hd _) (h _ (unitS_ok (by decide) (by decide) (by omega) (by omega)))⟩
  walk_at "w"
  refine ifD (fun e => ?_) (fun e => ?_)
  · walk_at "w"
    refine ⟨(by decide : (0 : Int) < 7 ∧ (7 : Int) < _), ?_⟩
    walk_at "w"
    refine ⟨(by omega : (0 : Int) < n), ?_⟩
    walk_at "w"
    refine ⟨(by decide : (0 : Int) < 21 ∧ (21 : Int) < _), ?_⟩
    walk_at "w"
    refine ⟨(by decide : (0 : Int) < 3), ?_⟩
    have c1 := Int.emod_nonneg (c / 7) (b := (n : Int)) (by omega)
    have c2 := Int.emod_lt_of_pos (c / 7) (b := (n : Int)) (by omega)
    obtain ⟨k, hk⟩ : ∃ k : Nat, c / 7 % (n : Int) = (k : Int) := ⟨(c / 7 % (n : Int)).toNat, by omega⟩
    exact ⟨n, k, 1, c / 21 % 3 - 1, (by show [D.int n, .int (c / 7 % n), .int 1, .int (c / 21 % 3 - 1)] = _; rw [hk]), by omega, by omega, Pure.same (encS_hd _) (h _ (unitS_ok (by decide) (by decide) (by omega) (by omega)))⟩
  · walk_at "w"
    refine ⟨(by decide : (0 : Int) < 7 ∧ (7 : Int) < _), ?_⟩
    exact ⟨c / 7, n, rfl, by omega, hn1, hn3, fun s hs => Pure.same (encS_hd _) (h s hs)⟩
end DL

/-! The law's making of a program. -/
namespace DL
open PySem L2
local macro_rules | `(tactic| walk_at "w") => `(tactic| conv => whnf)
def stD (ns : List Int) (a l : Int) (tp : List Nat) : DO := .dic [("script", .scr ns), ("at", .int a), ("left", .int l), ("tops", .lst (encN tp))]
def S_l_row : Nat → DSp := fun n ds O R => ∃ (h : Nat) (ns : List Int) (a l : Int) (tp : List Nat), ds = [.own h, .int n] ∧ O[h]? = some (some (stD ns a l tp)) ∧ 0 ≤ a ∧ 0 < l ∧ TpOk tp ∧
  ∀ (r : Row) (a' l' : Int), okR tp.length r n → (cntR r : Int) ≤ l - l' → a ≤ a' → -1 ≤ l' → R (encR r) (O.set h (some (stD ns a' l' tp)))
def S_l_rows : Nat → DSp := fun n ds O R => ∃ (h : Nat) (ns : List Int) (a l : Int) (tp : List Nat) (m : Int), ds = [.own h, .int n, .int m] ∧ O[h]? = some (some (stD ns a l tp)) ∧ 0 ≤ a ∧ -1 ≤ l ∧ TpOk tp ∧ 0 ≤ m ∧ m ≤ 1000 ∧
  ∀ (rs : List Row) (a' l' : Int), okRs tp.length rs n → (cnts rs : Int) ≤ l - l' → rs.length ≤ m.toNat → a ≤ a' → -1 ≤ l' → R (.tup (encRs rs)) (O.set h (some (stD ns a' l' tp)))
def S_l_rowsP : Nat → DSp
  | 0 => fun _ _ _ => False
  | n + 1 => S_l_rows n
theorem len_l_row (n : Nat) (ds : List D) (O : Own) (R : D → Own → Prop) (h : S_l_row n ds O R) : ds.length = 2 := by obtain ⟨_, _, _, _, _, rfl, _⟩ := h; rfl
theorem len_l_rows (n : Nat) (ds : List D) (O : Own) (R : D → Own → Prop) (h : S_l_rows n ds O R) : ds.length = 3 := by obtain ⟨_, _, _, _, _, _, rfl, _⟩ := h; rfl
def N_l_rows : List Str := ["_law_state", "_law_deep", "_law_most", "_law_rows_here", "_law_k"]
def R_l_rows (n : Nat) : DS :=
  (dSeq (dAsg (dTup dNil) (dgName 3))
  (dSeq (dFor (diR1 (dVar 2)) (dgName 4) (dIfS (dTest (dOp gtD (dDGet (dVar 0) (dC (.str "left"))) (dC (.int 0)))) (dAsg (dOp addD (dVar 3) (dTup (dCons (dCall (S_l_row n) (dCons (dVar 0) (dCons (dVar 1) dNil))) dNil))) (dgName 3)) dNext))
  (dRet (dVar 3))))
theorem setget {O : Own} {h : Nat} {x : Option DO} (hh : h < O.length) : (O.set h x)[h]? = some x := by rw [List.getElem?_set_self hh]
theorem set_same {O : Own} {h : Nat} {x : Option DO} (e : O[h]? = some x) : O.set h x = O := by
  refine List.ext_getElem? fun i => ?_
  by_cases q : h = i
  · subst q
    rw [setget (List.getElem?_eq_some_iff.mp e).1, e]
  · rw [List.getElem?_set_ne q]
theorem sem_l_rows (n : Nat) (ds : List D) (O : Own) (R : D → Own → Prop) (h : S_l_rows n ds O R) : R_l_rows n { nx := fun _ O' => R .non O', rt := R } (startD N_l_rows ds) O := by
  obtain ⟨hd, ns, a, l, tp, m, rfl, hO, ha, hl, tok, m0, m1, h⟩ := h
  obtain ⟨M, rfl⟩ : ∃ M : Nat, m = (M : Int) := ⟨m.toNat, by omega⟩
  have hlt : hd < O.length := (List.getElem?_eq_some_iff.mp hO).1
  walk_at "w"
  refine ⟨by omega, ?_⟩
  rw [Int.toNat_natCast]
  refine forL_rng M (fun j δ O' => ∃ (rs : List Row) (a' l' : Int), okRs tp.length rs n ∧ (cnts rs : Int) ≤ l - l' ∧ rs.length ≤ j ∧ a ≤ a' ∧ -1 ≤ l' ∧ O' = O.set hd (some (stD ns a' l' tp)) ∧ ∃ c, δ = [some (.own hd), some (.int n), some (.int M), some (.tup (encRs rs)), c])
    ⟨[], a, l, trivial, by show (0 : Int) ≤ _; omega, by decide, by omega, hl, (set_same hO).symm, _, rfl⟩ (fun _ _ _ _ => trivial) ?_ ?_
  · rintro j δ O' nx hj ⟨rs, a', l', hrs, hc, hlen, ha', hl', rfl, c, rfl⟩ hx
    walk_at "w"
    rw [setget hlt]
    walk_at "w"
    refine ifD (fun e => ?_) (fun e => ?_)
    · refine ⟨hd, ns, a', l', tp, rfl, setget hlt, by omega, e, tok, fun r a2 l2 h1 h2 h3 h4 => ?_⟩
      rw [List.set_set]
      walk_at "w"
      refine ⟨by rw [encRs_length]; show rs.length + 1 ≤ 1000000; omega, ?_⟩
      refine hx _ _ ⟨rs ++ [r], a2, l2, okRs_of fun x hx' => ?_, ?_, by simp; omega, by omega, h4, rfl, some (.int (j : Nat)), ?_⟩
      · rcases List.mem_append.mp hx' with z | z
        · exact okRs_mem hrs x z
        · rw [List.mem_singleton.mp z]; exact h1
      · rw [cnts_append]
        show ((cnts rs + (cntR r + 0) : Nat) : Int) ≤ _
        omega
      · rw [encRs_append]
        rfl
    · exact hx _ _ ⟨rs, a', l', hrs, hc, by omega, ha', hl', rfl, _, rfl⟩
  · rintro δ O' ⟨rs, a', l', hrs, hc, hlen, ha', hl', rfl, c, rfl⟩
    exact h rs a' l' hrs hc (by omega) ha' hl'
def N_l_row : List Str := ["_law_state", "_law_deep", "_law_cell", "_law_more", "_law_many", "_law_way", "_law_box", "_law_first", "_law_words", "_law_k", "_law_one", "_law_body", "_law_word_here"]
def R_l_row (n : Nat) : DS :=
  (dSeq (dAsg (dCall S_l_at (dCons (dDGet (dVar 0) (dC (.str "script"))) (dCons (dDGet (dVar 0) (dC (.str "at"))) dNil))) (dgName 2))
  (dSeq (dAsg (dCall S_l_at (dCons (dDGet (dVar 0) (dC (.str "script"))) (dCons (dOp addD (dDGet (dVar 0) (dC (.str "at"))) (dC (.int 1))) dNil))) (dgName 3))
  (dSeq (dAsg (dCall1 lenD (dCons (dDGet (dVar 0) (dC (.str "tops"))) dNil)) (dgName 4))
  (dSeq (dsDPut (dVar 0) (dC (.str "at")) (dOp addD (dDGet (dVar 0) (dC (.str "at"))) (dC (.int 2))))
  (dSeq (dsDPut (dVar 0) (dC (.str "left")) (dOp subD (dDGet (dVar 0) (dC (.str "left"))) (dC (.int 1))))
  (dSeq (dAsg (dOp modD (dVar 2) (dC (.int 9))) (dgName 5))
  (dSeq (dAsg (dOp modD (dOp divD (dVar 2) (dC (.int 9))) (dVar 4)) (dgName 6))
  (dSeq (dIfS (dOr (dTest (dOp ltD (dVar 5) (dC (.int 3)))) (dAnd (dTest (dOp eqD (dVar 1) (dC (.int 0)))) (dTest (dOp gtD (dVar 5) (dC (.int 4)))))) (dRet (dTup (dCons (dC (.str "put")) (dCons (dVar 6) (dCons (dCall S_l_into (dCons (dVar 3) (dCons (dVar 4) (dCons (dVar 6) dNil)))) dNil))))) dNext)
  (dSeq (dIfS (dTest (dOp ltD (dVar 5) (dC (.int 5)))) (dRet (dTup (dCons (dC (.str "say")) (dCons (dCall S_l_word (dCons (dVar 3) (dCons (dVar 4) dNil))) dNil)))) dNext)
  (dSeq (dIfS (dTest (dOp ltD (dVar 5) (dC (.int 7)))) (dSeq (dAsg (dCall (S_l_rowsP n) (dCons (dVar 0) (dCons (dOp subD (dVar 1) (dC (.int 1))) (dCons (dOp modD (dOp divD (dVar 2) (dC (.int 9))) (dC (.int 3))) dNil)))) (dgName 7))
  (dRet (dTup (dCons (dC (.str "if")) (dCons (dCall S_l_word (dCons (dVar 3) (dCons (dVar 4) dNil))) (dCons (dVar 7) (dCons (dCall (S_l_rowsP n) (dCons (dVar 0) (dCons (dOp subD (dVar 1) (dC (.int 1))) (dCons (dOp modD (dOp divD (dVar 2) (dC (.int 27))) (dC (.int 3))) dNil)))) dNil))))))) dNext)
  (dSeq (dsDPut (dVar 0) (dC (.str "left")) (dOp subD (dDGet (dVar 0) (dC (.str "left"))) (dC (.int 1))))
  (dSeq (dAsg (dTup dNil) (dgName 8))
  (dSeq (dFor (diR1 (dOp ixD (dFrz (dLst (dCons (dC (.int 0)) (dCons (dC (.int 0)) (dCons (dC (.int 1)) (dCons (dC (.int 2)) (dCons (dC (.int 3)) dNil))))))) (dOp modD (dOp divD (dVar 2) (dC (.int 81))) (dC (.int 5))))) (dgName 9) (dSeq (dAsg (dCall S_l_at (dCons (dDGet (dVar 0) (dC (.str "script"))) (dCons (dOp addD (dOp addD (dDGet (dVar 0) (dC (.str "at"))) (dC (.int 5))) (dVar 9)) dNil))) (dgName 10))
  (dAsg (dOp addD (dVar 8) (dTup (dCons (dCall S_l_word (dCons (dVar 10) (dCons (dVar 4) dNil))) dNil))) (dgName 8))))
  (dSeq (dAsg (dTup (dCons (dTup (dCons (dC (.str "put")) (dCons (dVar 6) (dCons (dCall S_l_unit (dCons (dVar 4) (dCons (dVar 6) (dCons (dC (.int 1)) (dCons (dC (.int 1)) dNil))))) dNil)))) dNil)) (dgName 11))
  (dSeq (dIfS (dTest (dOp eqD (dOp modD (dOp divD (dVar 2) (dC (.int 405))) (dC (.int 8))) (dC (.int 1)))) (dAsg (dTup dNil) (dgName 11)) dNext)
  (dSeq (dAsg (dOp addD (dVar 11) (dCall (S_l_rowsP n) (dCons (dVar 0) (dCons (dOp subD (dVar 1) (dC (.int 1))) (dCons (dOp modD (dOp divD (dVar 2) (dC (.int 27))) (dC (.int 3))) dNil))))) (dgName 11))
  (dSeq (dAsg (dCall S_l_unit (dCons (dVar 4) (dCons (dVar 6) (dCons (dC (.int 1)) (dCons (dOp subD (dC (.int 1)) (dOp ixD (dDGet (dVar 0) (dC (.str "tops"))) (dVar 6))) dNil))))) (dgName 12))
  (dSeq (dIfS (dTest (dOp eqD (dOp modD (dOp divD (dVar 2) (dC (.int 3240))) (dC (.int 6))) (dC (.int 1)))) (dAsg (dCall S_l_word (dCons (dVar 3) (dCons (dVar 4) dNil))) (dgName 12)) dNext)
  (dRet (dTup (dCons (dC (.str "loop")) (dCons (dVar 12) (dCons (dVar 8) (dCons (dVar 11) dNil))))))))))))))))))))))))
def R_l_row_4 (n : Nat) : DS :=
  (dSeq (dsDPut (dVar 0) (dC (.str "left")) (dOp subD (dDGet (dVar 0) (dC (.str "left"))) (dC (.int 1))))
  (dSeq (dAsg (dOp modD (dVar 2) (dC (.int 9))) (dgName 5))
  (dSeq (dAsg (dOp modD (dOp divD (dVar 2) (dC (.int 9))) (dVar 4)) (dgName 6))
  (dSeq (dIfS (dOr (dTest (dOp ltD (dVar 5) (dC (.int 3)))) (dAnd (dTest (dOp eqD (dVar 1) (dC (.int 0)))) (dTest (dOp gtD (dVar 5) (dC (.int 4)))))) (dRet (dTup (dCons (dC (.str "put")) (dCons (dVar 6) (dCons (dCall S_l_into (dCons (dVar 3) (dCons (dVar 4) (dCons (dVar 6) dNil)))) dNil))))) dNext)
  (dSeq (dIfS (dTest (dOp ltD (dVar 5) (dC (.int 5)))) (dRet (dTup (dCons (dC (.str "say")) (dCons (dCall S_l_word (dCons (dVar 3) (dCons (dVar 4) dNil))) dNil)))) dNext)
  (dSeq (dIfS (dTest (dOp ltD (dVar 5) (dC (.int 7)))) (dSeq (dAsg (dCall (S_l_rowsP n) (dCons (dVar 0) (dCons (dOp subD (dVar 1) (dC (.int 1))) (dCons (dOp modD (dOp divD (dVar 2) (dC (.int 9))) (dC (.int 3))) dNil)))) (dgName 7))
  (dRet (dTup (dCons (dC (.str "if")) (dCons (dCall S_l_word (dCons (dVar 3) (dCons (dVar 4) dNil))) (dCons (dVar 7) (dCons (dCall (S_l_rowsP n) (dCons (dVar 0) (dCons (dOp subD (dVar 1) (dC (.int 1))) (dCons (dOp modD (dOp divD (dVar 2) (dC (.int 27))) (dC (.int 3))) dNil)))) dNil))))))) dNext)
  (dSeq (dsDPut (dVar 0) (dC (.str "left")) (dOp subD (dDGet (dVar 0) (dC (.str "left"))) (dC (.int 1))))
  (dSeq (dAsg (dTup dNil) (dgName 8))
  (dSeq (dFor (diR1 (dOp ixD (dFrz (dLst (dCons (dC (.int 0)) (dCons (dC (.int 0)) (dCons (dC (.int 1)) (dCons (dC (.int 2)) (dCons (dC (.int 3)) dNil))))))) (dOp modD (dOp divD (dVar 2) (dC (.int 81))) (dC (.int 5))))) (dgName 9) (dSeq (dAsg (dCall S_l_at (dCons (dDGet (dVar 0) (dC (.str "script"))) (dCons (dOp addD (dOp addD (dDGet (dVar 0) (dC (.str "at"))) (dC (.int 5))) (dVar 9)) dNil))) (dgName 10))
  (dAsg (dOp addD (dVar 8) (dTup (dCons (dCall S_l_word (dCons (dVar 10) (dCons (dVar 4) dNil))) dNil))) (dgName 8))))
  (dSeq (dAsg (dTup (dCons (dTup (dCons (dC (.str "put")) (dCons (dVar 6) (dCons (dCall S_l_unit (dCons (dVar 4) (dCons (dVar 6) (dCons (dC (.int 1)) (dCons (dC (.int 1)) dNil))))) dNil)))) dNil)) (dgName 11))
  (dSeq (dIfS (dTest (dOp eqD (dOp modD (dOp divD (dVar 2) (dC (.int 405))) (dC (.int 8))) (dC (.int 1)))) (dAsg (dTup dNil) (dgName 11)) dNext)
  (dSeq (dAsg (dOp addD (dVar 11) (dCall (S_l_rowsP n) (dCons (dVar 0) (dCons (dOp subD (dVar 1) (dC (.int 1))) (dCons (dOp modD (dOp divD (dVar 2) (dC (.int 27))) (dC (.int 3))) dNil))))) (dgName 11))
  (dSeq (dAsg (dCall S_l_unit (dCons (dVar 4) (dCons (dVar 6) (dCons (dC (.int 1)) (dCons (dOp subD (dC (.int 1)) (dOp ixD (dDGet (dVar 0) (dC (.str "tops"))) (dVar 6))) dNil))))) (dgName 12))
  (dSeq (dIfS (dTest (dOp eqD (dOp modD (dOp divD (dVar 2) (dC (.int 3240))) (dC (.int 6))) (dC (.int 1)))) (dAsg (dCall S_l_word (dCons (dVar 3) (dCons (dVar 4) dNil))) (dgName 12)) dNext)
  (dRet (dTup (dCons (dC (.str "loop")) (dCons (dVar 12) (dCons (dVar 8) (dCons (dVar 11) dNil))))))))))))))))))))
def R_l_row_5 (n : Nat) : DS :=
  (dSeq (dAsg (dOp modD (dVar 2) (dC (.int 9))) (dgName 5))
  (dSeq (dAsg (dOp modD (dOp divD (dVar 2) (dC (.int 9))) (dVar 4)) (dgName 6))
  (dSeq (dIfS (dOr (dTest (dOp ltD (dVar 5) (dC (.int 3)))) (dAnd (dTest (dOp eqD (dVar 1) (dC (.int 0)))) (dTest (dOp gtD (dVar 5) (dC (.int 4)))))) (dRet (dTup (dCons (dC (.str "put")) (dCons (dVar 6) (dCons (dCall S_l_into (dCons (dVar 3) (dCons (dVar 4) (dCons (dVar 6) dNil)))) dNil))))) dNext)
  (dSeq (dIfS (dTest (dOp ltD (dVar 5) (dC (.int 5)))) (dRet (dTup (dCons (dC (.str "say")) (dCons (dCall S_l_word (dCons (dVar 3) (dCons (dVar 4) dNil))) dNil)))) dNext)
  (dSeq (dIfS (dTest (dOp ltD (dVar 5) (dC (.int 7)))) (dSeq (dAsg (dCall (S_l_rowsP n) (dCons (dVar 0) (dCons (dOp subD (dVar 1) (dC (.int 1))) (dCons (dOp modD (dOp divD (dVar 2) (dC (.int 9))) (dC (.int 3))) dNil)))) (dgName 7))
  (dRet (dTup (dCons (dC (.str "if")) (dCons (dCall S_l_word (dCons (dVar 3) (dCons (dVar 4) dNil))) (dCons (dVar 7) (dCons (dCall (S_l_rowsP n) (dCons (dVar 0) (dCons (dOp subD (dVar 1) (dC (.int 1))) (dCons (dOp modD (dOp divD (dVar 2) (dC (.int 27))) (dC (.int 3))) dNil)))) dNil))))))) dNext)
  (dSeq (dsDPut (dVar 0) (dC (.str "left")) (dOp subD (dDGet (dVar 0) (dC (.str "left"))) (dC (.int 1))))
  (dSeq (dAsg (dTup dNil) (dgName 8))
  (dSeq (dFor (diR1 (dOp ixD (dFrz (dLst (dCons (dC (.int 0)) (dCons (dC (.int 0)) (dCons (dC (.int 1)) (dCons (dC (.int 2)) (dCons (dC (.int 3)) dNil))))))) (dOp modD (dOp divD (dVar 2) (dC (.int 81))) (dC (.int 5))))) (dgName 9) (dSeq (dAsg (dCall S_l_at (dCons (dDGet (dVar 0) (dC (.str "script"))) (dCons (dOp addD (dOp addD (dDGet (dVar 0) (dC (.str "at"))) (dC (.int 5))) (dVar 9)) dNil))) (dgName 10))
  (dAsg (dOp addD (dVar 8) (dTup (dCons (dCall S_l_word (dCons (dVar 10) (dCons (dVar 4) dNil))) dNil))) (dgName 8))))
  (dSeq (dAsg (dTup (dCons (dTup (dCons (dC (.str "put")) (dCons (dVar 6) (dCons (dCall S_l_unit (dCons (dVar 4) (dCons (dVar 6) (dCons (dC (.int 1)) (dCons (dC (.int 1)) dNil))))) dNil)))) dNil)) (dgName 11))
  (dSeq (dIfS (dTest (dOp eqD (dOp modD (dOp divD (dVar 2) (dC (.int 405))) (dC (.int 8))) (dC (.int 1)))) (dAsg (dTup dNil) (dgName 11)) dNext)
  (dSeq (dAsg (dOp addD (dVar 11) (dCall (S_l_rowsP n) (dCons (dVar 0) (dCons (dOp subD (dVar 1) (dC (.int 1))) (dCons (dOp modD (dOp divD (dVar 2) (dC (.int 27))) (dC (.int 3))) dNil))))) (dgName 11))
  (dSeq (dAsg (dCall S_l_unit (dCons (dVar 4) (dCons (dVar 6) (dCons (dC (.int 1)) (dCons (dOp subD (dC (.int 1)) (dOp ixD (dDGet (dVar 0) (dC (.str "tops"))) (dVar 6))) dNil))))) (dgName 12))
  (dSeq (dIfS (dTest (dOp eqD (dOp modD (dOp divD (dVar 2) (dC (.int 3240))) (dC (.int 6))) (dC (.int 1)))) (dAsg (dCall S_l_word (dCons (dVar 3) (dCons (dVar 4) dNil))) (dgName 12)) dNext)
  (dRet (dTup (dCons (dC (.str "loop")) (dCons (dVar 12) (dCons (dVar 8) (dCons (dVar 11) dNil)))))))))))))))))))
def R_l_row_7 (n : Nat) : DS :=
  (dSeq (dIfS (dOr (dTest (dOp ltD (dVar 5) (dC (.int 3)))) (dAnd (dTest (dOp eqD (dVar 1) (dC (.int 0)))) (dTest (dOp gtD (dVar 5) (dC (.int 4)))))) (dRet (dTup (dCons (dC (.str "put")) (dCons (dVar 6) (dCons (dCall S_l_into (dCons (dVar 3) (dCons (dVar 4) (dCons (dVar 6) dNil)))) dNil))))) dNext)
  (dSeq (dIfS (dTest (dOp ltD (dVar 5) (dC (.int 5)))) (dRet (dTup (dCons (dC (.str "say")) (dCons (dCall S_l_word (dCons (dVar 3) (dCons (dVar 4) dNil))) dNil)))) dNext)
  (dSeq (dIfS (dTest (dOp ltD (dVar 5) (dC (.int 7)))) (dSeq (dAsg (dCall (S_l_rowsP n) (dCons (dVar 0) (dCons (dOp subD (dVar 1) (dC (.int 1))) (dCons (dOp modD (dOp divD (dVar 2) (dC (.int 9))) (dC (.int 3))) dNil)))) (dgName 7))
  (dRet (dTup (dCons (dC (.str "if")) (dCons (dCall S_l_word (dCons (dVar 3) (dCons (dVar 4) dNil))) (dCons (dVar 7) (dCons (dCall (S_l_rowsP n) (dCons (dVar 0) (dCons (dOp subD (dVar 1) (dC (.int 1))) (dCons (dOp modD (dOp divD (dVar 2) (dC (.int 27))) (dC (.int 3))) dNil)))) dNil))))))) dNext)
  (dSeq (dsDPut (dVar 0) (dC (.str "left")) (dOp subD (dDGet (dVar 0) (dC (.str "left"))) (dC (.int 1))))
  (dSeq (dAsg (dTup dNil) (dgName 8))
  (dSeq (dFor (diR1 (dOp ixD (dFrz (dLst (dCons (dC (.int 0)) (dCons (dC (.int 0)) (dCons (dC (.int 1)) (dCons (dC (.int 2)) (dCons (dC (.int 3)) dNil))))))) (dOp modD (dOp divD (dVar 2) (dC (.int 81))) (dC (.int 5))))) (dgName 9) (dSeq (dAsg (dCall S_l_at (dCons (dDGet (dVar 0) (dC (.str "script"))) (dCons (dOp addD (dOp addD (dDGet (dVar 0) (dC (.str "at"))) (dC (.int 5))) (dVar 9)) dNil))) (dgName 10))
  (dAsg (dOp addD (dVar 8) (dTup (dCons (dCall S_l_word (dCons (dVar 10) (dCons (dVar 4) dNil))) dNil))) (dgName 8))))
  (dSeq (dAsg (dTup (dCons (dTup (dCons (dC (.str "put")) (dCons (dVar 6) (dCons (dCall S_l_unit (dCons (dVar 4) (dCons (dVar 6) (dCons (dC (.int 1)) (dCons (dC (.int 1)) dNil))))) dNil)))) dNil)) (dgName 11))
  (dSeq (dIfS (dTest (dOp eqD (dOp modD (dOp divD (dVar 2) (dC (.int 405))) (dC (.int 8))) (dC (.int 1)))) (dAsg (dTup dNil) (dgName 11)) dNext)
  (dSeq (dAsg (dOp addD (dVar 11) (dCall (S_l_rowsP n) (dCons (dVar 0) (dCons (dOp subD (dVar 1) (dC (.int 1))) (dCons (dOp modD (dOp divD (dVar 2) (dC (.int 27))) (dC (.int 3))) dNil))))) (dgName 11))
  (dSeq (dAsg (dCall S_l_unit (dCons (dVar 4) (dCons (dVar 6) (dCons (dC (.int 1)) (dCons (dOp subD (dC (.int 1)) (dOp ixD (dDGet (dVar 0) (dC (.str "tops"))) (dVar 6))) dNil))))) (dgName 12))
  (dSeq (dIfS (dTest (dOp eqD (dOp modD (dOp divD (dVar 2) (dC (.int 3240))) (dC (.int 6))) (dC (.int 1)))) (dAsg (dCall S_l_word (dCons (dVar 3) (dCons (dVar 4) dNil))) (dgName 12)) dNext)
  (dRet (dTup (dCons (dC (.str "loop")) (dCons (dVar 12) (dCons (dVar 8) (dCons (dVar 11) dNil)))))))))))))))))
def R_l_row_8 (n : Nat) : DS :=
  (dSeq (dIfS (dTest (dOp ltD (dVar 5) (dC (.int 5)))) (dRet (dTup (dCons (dC (.str "say")) (dCons (dCall S_l_word (dCons (dVar 3) (dCons (dVar 4) dNil))) dNil)))) dNext)
  (dSeq (dIfS (dTest (dOp ltD (dVar 5) (dC (.int 7)))) (dSeq (dAsg (dCall (S_l_rowsP n) (dCons (dVar 0) (dCons (dOp subD (dVar 1) (dC (.int 1))) (dCons (dOp modD (dOp divD (dVar 2) (dC (.int 9))) (dC (.int 3))) dNil)))) (dgName 7))
  (dRet (dTup (dCons (dC (.str "if")) (dCons (dCall S_l_word (dCons (dVar 3) (dCons (dVar 4) dNil))) (dCons (dVar 7) (dCons (dCall (S_l_rowsP n) (dCons (dVar 0) (dCons (dOp subD (dVar 1) (dC (.int 1))) (dCons (dOp modD (dOp divD (dVar 2) (dC (.int 27))) (dC (.int 3))) dNil)))) dNil))))))) dNext)
  (dSeq (dsDPut (dVar 0) (dC (.str "left")) (dOp subD (dDGet (dVar 0) (dC (.str "left"))) (dC (.int 1))))
  (dSeq (dAsg (dTup dNil) (dgName 8))
  (dSeq (dFor (diR1 (dOp ixD (dFrz (dLst (dCons (dC (.int 0)) (dCons (dC (.int 0)) (dCons (dC (.int 1)) (dCons (dC (.int 2)) (dCons (dC (.int 3)) dNil))))))) (dOp modD (dOp divD (dVar 2) (dC (.int 81))) (dC (.int 5))))) (dgName 9) (dSeq (dAsg (dCall S_l_at (dCons (dDGet (dVar 0) (dC (.str "script"))) (dCons (dOp addD (dOp addD (dDGet (dVar 0) (dC (.str "at"))) (dC (.int 5))) (dVar 9)) dNil))) (dgName 10))
  (dAsg (dOp addD (dVar 8) (dTup (dCons (dCall S_l_word (dCons (dVar 10) (dCons (dVar 4) dNil))) dNil))) (dgName 8))))
  (dSeq (dAsg (dTup (dCons (dTup (dCons (dC (.str "put")) (dCons (dVar 6) (dCons (dCall S_l_unit (dCons (dVar 4) (dCons (dVar 6) (dCons (dC (.int 1)) (dCons (dC (.int 1)) dNil))))) dNil)))) dNil)) (dgName 11))
  (dSeq (dIfS (dTest (dOp eqD (dOp modD (dOp divD (dVar 2) (dC (.int 405))) (dC (.int 8))) (dC (.int 1)))) (dAsg (dTup dNil) (dgName 11)) dNext)
  (dSeq (dAsg (dOp addD (dVar 11) (dCall (S_l_rowsP n) (dCons (dVar 0) (dCons (dOp subD (dVar 1) (dC (.int 1))) (dCons (dOp modD (dOp divD (dVar 2) (dC (.int 27))) (dC (.int 3))) dNil))))) (dgName 11))
  (dSeq (dAsg (dCall S_l_unit (dCons (dVar 4) (dCons (dVar 6) (dCons (dC (.int 1)) (dCons (dOp subD (dC (.int 1)) (dOp ixD (dDGet (dVar 0) (dC (.str "tops"))) (dVar 6))) dNil))))) (dgName 12))
  (dSeq (dIfS (dTest (dOp eqD (dOp modD (dOp divD (dVar 2) (dC (.int 3240))) (dC (.int 6))) (dC (.int 1)))) (dAsg (dCall S_l_word (dCons (dVar 3) (dCons (dVar 4) dNil))) (dgName 12)) dNext)
  (dRet (dTup (dCons (dC (.str "loop")) (dCons (dVar 12) (dCons (dVar 8) (dCons (dVar 11) dNil))))))))))))))))
def R_l_row_11 (n : Nat) : DS :=
  (dSeq (dAsg (dTup dNil) (dgName 8))
  (dSeq (dFor (diR1 (dOp ixD (dFrz (dLst (dCons (dC (.int 0)) (dCons (dC (.int 0)) (dCons (dC (.int 1)) (dCons (dC (.int 2)) (dCons (dC (.int 3)) dNil))))))) (dOp modD (dOp divD (dVar 2) (dC (.int 81))) (dC (.int 5))))) (dgName 9) (dSeq (dAsg (dCall S_l_at (dCons (dDGet (dVar 0) (dC (.str "script"))) (dCons (dOp addD (dOp addD (dDGet (dVar 0) (dC (.str "at"))) (dC (.int 5))) (dVar 9)) dNil))) (dgName 10))
  (dAsg (dOp addD (dVar 8) (dTup (dCons (dCall S_l_word (dCons (dVar 10) (dCons (dVar 4) dNil))) dNil))) (dgName 8))))
  (dSeq (dAsg (dTup (dCons (dTup (dCons (dC (.str "put")) (dCons (dVar 6) (dCons (dCall S_l_unit (dCons (dVar 4) (dCons (dVar 6) (dCons (dC (.int 1)) (dCons (dC (.int 1)) dNil))))) dNil)))) dNil)) (dgName 11))
  (dSeq (dIfS (dTest (dOp eqD (dOp modD (dOp divD (dVar 2) (dC (.int 405))) (dC (.int 8))) (dC (.int 1)))) (dAsg (dTup dNil) (dgName 11)) dNext)
  (dSeq (dAsg (dOp addD (dVar 11) (dCall (S_l_rowsP n) (dCons (dVar 0) (dCons (dOp subD (dVar 1) (dC (.int 1))) (dCons (dOp modD (dOp divD (dVar 2) (dC (.int 27))) (dC (.int 3))) dNil))))) (dgName 11))
  (dSeq (dAsg (dCall S_l_unit (dCons (dVar 4) (dCons (dVar 6) (dCons (dC (.int 1)) (dCons (dOp subD (dC (.int 1)) (dOp ixD (dDGet (dVar 0) (dC (.str "tops"))) (dVar 6))) dNil))))) (dgName 12))
  (dSeq (dIfS (dTest (dOp eqD (dOp modD (dOp divD (dVar 2) (dC (.int 3240))) (dC (.int 6))) (dC (.int 1)))) (dAsg (dCall S_l_word (dCons (dVar 3) (dCons (dVar 4) dNil))) (dgName 12)) dNext)
  (dRet (dTup (dCons (dC (.str "loop")) (dCons (dVar 12) (dCons (dVar 8) (dCons (dVar 11) dNil)))))))))))))
def R_l_row_13 (n : Nat) : DS :=
  (dSeq (dAsg (dTup (dCons (dTup (dCons (dC (.str "put")) (dCons (dVar 6) (dCons (dCall S_l_unit (dCons (dVar 4) (dCons (dVar 6) (dCons (dC (.int 1)) (dCons (dC (.int 1)) dNil))))) dNil)))) dNil)) (dgName 11))
  (dSeq (dIfS (dTest (dOp eqD (dOp modD (dOp divD (dVar 2) (dC (.int 405))) (dC (.int 8))) (dC (.int 1)))) (dAsg (dTup dNil) (dgName 11)) dNext)
  (dSeq (dAsg (dOp addD (dVar 11) (dCall (S_l_rowsP n) (dCons (dVar 0) (dCons (dOp subD (dVar 1) (dC (.int 1))) (dCons (dOp modD (dOp divD (dVar 2) (dC (.int 27))) (dC (.int 3))) dNil))))) (dgName 11))
  (dSeq (dAsg (dCall S_l_unit (dCons (dVar 4) (dCons (dVar 6) (dCons (dC (.int 1)) (dCons (dOp subD (dC (.int 1)) (dOp ixD (dDGet (dVar 0) (dC (.str "tops"))) (dVar 6))) dNil))))) (dgName 12))
  (dSeq (dIfS (dTest (dOp eqD (dOp modD (dOp divD (dVar 2) (dC (.int 3240))) (dC (.int 6))) (dC (.int 1)))) (dAsg (dCall S_l_word (dCons (dVar 3) (dCons (dVar 4) dNil))) (dgName 12)) dNext)
  (dRet (dTup (dCons (dC (.str "loop")) (dCons (dVar 12) (dCons (dVar 8) (dCons (dVar 11) dNil)))))))))))
def R_l_row_15 (n : Nat) : DS :=
  (dSeq (dAsg (dOp addD (dVar 11) (dCall (S_l_rowsP n) (dCons (dVar 0) (dCons (dOp subD (dVar 1) (dC (.int 1))) (dCons (dOp modD (dOp divD (dVar 2) (dC (.int 27))) (dC (.int 3))) dNil))))) (dgName 11))
  (dSeq (dAsg (dCall S_l_unit (dCons (dVar 4) (dCons (dVar 6) (dCons (dC (.int 1)) (dCons (dOp subD (dC (.int 1)) (dOp ixD (dDGet (dVar 0) (dC (.str "tops"))) (dVar 6))) dNil))))) (dgName 12))
  (dSeq (dIfS (dTest (dOp eqD (dOp modD (dOp divD (dVar 2) (dC (.int 3240))) (dC (.int 6))) (dC (.int 1)))) (dAsg (dCall S_l_word (dCons (dVar 3) (dCons (dVar 4) dNil))) (dgName 12)) dNext)
  (dRet (dTup (dCons (dC (.str "loop")) (dCons (dVar 12) (dCons (dVar 8) (dCons (dVar 11) dNil)))))))))
def stG (a b c d : D) : List (Str × D) := [("script", a), ("at", b), ("left", c), ("tops", d)]
theorem put_left {a b c d x : D} : putK' "left" x (stG a b c d) = stG a b x d := by rfl
theorem put_at {a b c d x : D} : putK' "at" x (stG a b c d) = stG a x c d := by rfl
theorem put_leftE (a b c d x : D) : DO.dic (putK' "left" x [("script", a), ("at", b), ("left", c), ("tops", d)]) = DO.dic [("script", a), ("at", b), ("left", x), ("tops", d)] := congrArg DO.dic (put_left (a := a) (b := b) (c := c) (d := d) (x := x))
theorem put_atE (a b c d x : D) : DO.dic (putK' "at" x [("script", a), ("at", b), ("left", c), ("tops", d)]) = DO.dic [("script", a), ("at", x), ("left", c), ("tops", d)] := congrArg DO.dic (put_at (a := a) (b := b) (c := c) (d := d) (x := x))
theorem row_15 {m hd : Nat} {ns : List Int} {a l c e : Int} {tp : List Nat} {O : Own} {E : DEnds} {b : Nat} {ws : List Sm} {rs : List Row} {a9 a10 : Option D} (hlt : hd < O.length) (ha : 0 ≤ a) (hl : -1 ≤ l) (tok : TpOk tp) (hb : b < tp.length) (he : 0 ≤ e) (hc0 : 0 ≤ c)
    (hws : ∀ s ∈ ws, SmW tp.length s) (hw3 : ws.length ≤ 3) (hrs : okRs tp.length rs m) (hr1 : rs.length ≤ 1) 
    (h : ∀ (r : Row) (a' l' : Int), okR tp.length r (m + 1) → (cntR r : Int) ≤ l + 1 + cnts rs - l' → a ≤ a' → -1 ≤ l' → E.rt (encR r) (O.set hd (some (stD ns a' l' tp)))) :
    R_l_row_15 (m + 1) E [some (.own hd), some (.int ((m + 1 : Nat) : Int)), some (.int c), some (.int e), some (.int tp.length), some (.int (c % 9)), some (.int b), none, some (.tup (encSs ws)), a9, a10, some (.tup (encRs rs)), none] (O.set hd (some (stD ns a l tp))) := by
  walk_at "w"
  refine ⟨(by decide : (0 : Int) < 27 ∧ (27 : Int) < _), ?_⟩
  walk_at "w"
  refine ⟨(by decide : (0 : Int) < 3), ?_⟩
  refine ⟨hd, ns, a, l, tp, c / 27 % 3, (by show [D.own hd, .int (((m + 1 : Nat) : Int) - 1), .int (c / 27 % 3)] = _; rw [show ((m + 1 : Nat) : Int) - 1 = (m : Int) from by omega]), setget hlt, ha, hl, tok, by omega, by omega, fun r1 a1 l1 q1 q2 q2' q3 q4 => ?_⟩
  rw [List.set_set]
  walk_at "w"
  refine ⟨by rw [encRs_length, encRs_length]; omega, ?_⟩
  rw [← encRs_append]
  walk_at "w"
  rw [setget hlt]
  walk_at "w"
  have gb : tp[b]? = some tp[b] := List.getElem?_eq_getElem hb
  have t9 := tok.le _ (List.getElem_mem hb)
  rw [atD_nat (encN_get gb)]
  have fin : ∀ s, SmW tp.length s → E.rt (.tup [.str "loop", encS s, .tup (encSs ws), .tup (encRs (rs ++ r1))]) (O.set hd (some (stD ns a1 l1 tp))) := fun s hs => by
    refine h (.loop s ws (rs ++ r1)) a1 l1 ⟨by omega, hs, hw3, hws, okRs_of fun x hx => ?_⟩ ?_ q3 q4
    · rcases List.mem_append.mp hx with z | z
      · exact okRs_mem hrs x z
      · exact okRs_mem q1 x z
    · show ((1 + cnts (rs ++ r1) : Nat) : Int) ≤ _
      rw [cnts_append]
      omega
  refine ⟨tp.length, b, 1, 1 - (tp[b] : Int), rfl, by have := tok.few; omega, hb, ?_⟩
  walk_at "w"
  refine ⟨(by decide : (0 : Int) < 3240 ∧ (3240 : Int) < _), ?_⟩
  walk_at "w"
  refine ⟨(by decide : (0 : Int) < 6), ?_⟩
  refine ifD (fun _ => ?_) (fun _ => ?_)
  · refine ⟨e, tp.length, rfl, he, tok.pos, tok.few, fun s hs => ?_⟩
    exact fin s hs
  · exact fin _ (unitS_ok (by decide) (by decide) (by omega) (by omega))
theorem row_11 {m hd : Nat} {ns : List Int} {a l c e : Int} {tp : List Nat} {O : Own} {E : DEnds} {b : Nat} (hlt : hd < O.length) (ha : 0 ≤ a) (hl : -1 ≤ l) (tok : TpOk tp) (hb : b < tp.length) (he : 0 ≤ e) (hc0 : 0 ≤ c)
    (h : ∀ (r : Row) (a' l' : Int), okR tp.length r (m + 1) → (cntR r : Int) ≤ l + 2 - l' → a ≤ a' → -1 ≤ l' → E.rt (encR r) (O.set hd (some (stD ns a' l' tp)))) :
    R_l_row_11 (m + 1) E [some (.own hd), some (.int ((m + 1 : Nat) : Int)), some (.int c), some (.int e), some (.int tp.length), some (.int (c % 9)), some (.int b), none, none, none, none, none, none] (O.set hd (some (stD ns a l tp))) := by
  walk_at "w"
  refine ⟨(by decide : (0 : Int) < 81 ∧ (81 : Int) < _), ?_⟩
  walk_at "w"
  refine ⟨(by decide : (0 : Int) < 5), ?_⟩
  walk_at "w"
  obtain ⟨k, hk, k3⟩ : ∃ k : Nat, atD [D.int 0, .int 0, .int 1, .int 2, .int 3] (c / 81 % 5) = some (.int (k : Nat)) ∧ k ≤ 3 := by
    have : c / 81 % 5 = 0 ∨ c / 81 % 5 = 1 ∨ c / 81 % 5 = 2 ∨ c / 81 % 5 = 3 ∨ c / 81 % 5 = 4 := by omega
    rcases this with e | e | e | e | e <;> rw [e]
    · exact ⟨0, rfl, by decide⟩
    · exact ⟨0, rfl, by decide⟩
    · exact ⟨1, rfl, by decide⟩
    · exact ⟨2, rfl, by decide⟩
    · exact ⟨3, rfl, by decide⟩
  rw [hk]
  refine ⟨by omega, ?_⟩
  rw [Int.toNat_natCast]
  refine forL_rng k (fun j δ O' => O' = O.set hd (some (stD ns a l tp)) ∧ ∃ (ws : List Sm) (a9 a10 : Option D), (∀ s ∈ ws, SmW tp.length s) ∧ ws.length = j ∧ δ = [some (.own hd), some (.int ((m + 1 : Nat) : Int)), some (.int c), some (.int e), some (.int tp.length), some (.int (c % 9)), some (.int b), none, some (.tup (encSs ws)), a9, a10, none, none])
    ⟨rfl, [], none, none, (fun _ z => by cases z), rfl, rfl⟩ (fun _ _ _ _ => trivial) ?_ ?_
  · rintro j δ O' nx hj ⟨rfl, ws, a9, a10, hws, hlen, rfl⟩ hx
    walk_at "w"
    rw [setget hlt]
    walk_at "w"
    rw [setget hlt]
    refine ⟨ns, a + 5 + (j : Int), rfl, by omega, ?_⟩
    refine ⟨_, tp.length, rfl, cellAt_lo _ _, tok.pos, tok.few, fun s hs => ?_⟩
    walk_at "w"
    refine ⟨by rw [encSs_length]; show ws.length + 1 ≤ 1000000; omega, ?_⟩
    refine hx _ _ ⟨rfl, ws ++ [s], some (.int (j : Nat)), some (.int (cellAt ns (a + 5 + (j : Int)))), fun x hx' => ?_, by simp [hlen], ?_⟩
    · rcases List.mem_append.mp hx' with z | z
      · exact hws x z
      · rw [List.mem_singleton.mp z]; exact hs
    · have : encSs ws ++ [encS s] = encSs (ws ++ [s]) := by unfold encSs; rw [List.map_append]; rfl
      rw [← this]
      rfl
  · rintro δ O' ⟨rfl, ws, a9, a10, hws, hlen, rfl⟩
    refine ⟨tp.length, b, 1, 1, rfl, by have := tok.few; omega, hb, ?_⟩
    walk_at "w"
    refine ⟨(by decide : (0 : Int) < 405 ∧ (405 : Int) < _), ?_⟩
    walk_at "w"
    refine ⟨(by decide : (0 : Int) < 8), ?_⟩
    refine ifD (fun _ => ?_) (fun _ => ?_)
    · exact row_15 (rs := []) hlt ha hl tok hb he hc0 hws (by omega) trivial (by decide) fun r a' l' q1 q2 => h r a' l' q1 (by have : ((cnts ([] : List Row) : Nat) : Int) = 0 := rfl; omega)
    · exact row_15 (rs := [.put b (unitS tp.length b 1 1)]) hlt ha hl tok hb he hc0 hws (by omega) ⟨⟨hb, unitS_ok (by decide) (by decide) (by decide) (by decide)⟩, trivial⟩ (Nat.le_refl 1) fun r a' l' q1 q2 => h r a' l' q1 (by have : ((cnts [Row.put b (unitS tp.length b 1 1)] : Nat) : Int) = 1 := rfl; omega)
theorem dec_str {a b : Str} (h : ¬ a = b) : decide (a = b) = false := decide_eq_false h
theorem row_rest {n hd : Nat} {ns : List Int} {a l c e : Int} {tp : List Nat} {O : Own} {E : DEnds} {b : Nat} (hlt : hd < O.length) (ha : 0 ≤ a) (hl : 0 ≤ l) (tok : TpOk tp) (hb : b < tp.length) (he : 0 ≤ e) (hc0 : 0 ≤ c)
    (h : ∀ (r : Row) (a' l' : Int), okR tp.length r n → (cntR r : Int) ≤ l + 1 - l' → a ≤ a' → -1 ≤ l' → E.rt (encR r) (O.set hd (some (stD ns a' l' tp)))) (hway : ¬ (c % 9 < 3 ∨ (n = 0 ∧ 4 < c % 9))) :
    R_l_row_8 n E [some (.own hd), some (.int n), some (.int c), some (.int e), some (.int tp.length), some (.int (c % 9)), some (.int b), none, none, none, none, none, none] (O.set hd (some (stD ns a l tp))) := by
  have hlt' : ∀ x, hd < (O.set hd x).length := fun x => by rw [List.length_set]; exact hlt
  walk_at "w"
  refine ifD (fun e1 => ?_) (fun e1 => ?_)
  · refine ⟨e, tp.length, rfl, he, tok.pos, tok.few, fun s hs => ?_⟩
    exact h (.say s) a l hs (by show (1 : Int) ≤ _; omega) (Int.le_refl _) (by omega)
  obtain ⟨m, rfl⟩ : ∃ m, n = m + 1 := ⟨n - 1, by omega⟩
  walk_at "w"
  refine ifD (fun e2 => ?_) (fun e2 => ?_)
  · walk_at "w"
    refine ⟨(by decide : (0 : Int) < 9 ∧ (9 : Int) < _), ?_⟩
    walk_at "w"
    refine ⟨(by decide : (0 : Int) < 3), ?_⟩
    refine ⟨hd, ns, a, l, tp, c / 9 % 3, (by show [D.own hd, .int (((m + 1 : Nat) : Int) - 1), .int (c / 9 % 3)] = _; rw [show ((m + 1 : Nat) : Int) - 1 = (m : Int) from by omega]), setget hlt, ha, by omega, tok, by omega, by omega, fun r1 a1 l1 q1 q2 _ q3 q4 => ?_⟩
    rw [List.set_set]
    refine ⟨e, tp.length, rfl, he, tok.pos, tok.few, fun s hs => ?_⟩
    walk_at "w"
    refine ⟨(by decide : (0 : Int) < 27 ∧ (27 : Int) < _), ?_⟩
    walk_at "w"
    refine ⟨(by decide : (0 : Int) < 3), ?_⟩
    refine ⟨hd, ns, a1, l1, tp, c / 27 % 3, (by show [D.own hd, .int (((m + 1 : Nat) : Int) - 1), .int (c / 27 % 3)] = _; rw [show ((m + 1 : Nat) : Int) - 1 = (m : Int) from by omega]), setget hlt, by omega, q4, tok, by omega, by omega, fun r2 a2 l2 p1 p2 _ p3 p4 => ?_⟩
    rw [List.set_set]
    refine h (.ite s r1 r2) a2 l2 ⟨by omega, hs, q1, p1⟩ ?_ (by omega) p4
    show ((1 + cnts r1 + cnts r2 : Nat) : Int) ≤ _
    omega
  walk_at "w"
  rw [setget hlt]
  walk_at "w"
  rw [setget hlt]
  refine ⟨(by show 4 < 1000; decide), ?_⟩
  rw [List.set_set]
  have eP : DO.dic (putK' "left" ((fun i j => D.int (i - j)) l 1) [("script", .scr ns), ("at", .int a), ("left", .int l), ("tops", .lst (encN tp))]) = stD ns a (l - 1) tp := put_leftE _ _ _ _ _
  rw [eP]
  exact row_11 hlt ha (by omega) tok hb he hc0 fun r a' l' q1 q2 q3 q4 => h r a' l' q1 (by omega) q3 q4
theorem sem_l_row (n : Nat) (ds : List D) (O : Own) (R : D → Own → Prop) (h : S_l_row n ds O R) : R_l_row n { nx := fun _ O' => R .non O', rt := R } (startD N_l_row ds) O := by
  obtain ⟨hd, ns, a, l, tp, rfl, hO, ha, hl, tok, h⟩ := h
  have hlt : hd < O.length := (List.getElem?_eq_some_iff.mp hO).1
  walk_at "w"
  rw [hO]
  walk_at "w"
  rw [hO]
  refine ⟨ns, a, rfl, ha, ?_⟩
  generalize ec : cellAt ns a = c
  have c0 : 0 ≤ c := ec ▸ cellAt_lo _ _
  walk_at "w"
  rw [hO]
  walk_at "w"
  rw [hO]
  refine ⟨ns, a + 1, rfl, by omega, ?_⟩
  generalize ee : cellAt ns (a + 1) = e
  have e0 : 0 ≤ e := ee ▸ cellAt_lo _ _
  walk_at "w"
  rw [hO]
  walk_at "w"
  rw [encN_length]
  rw [hO]
  walk_at "w"
  rw [hO]
  refine ⟨(by show 4 < 1000; decide), ?_⟩
  have eP : DO.dic (putK' "at" (.int (a + 2)) [("script", .scr ns), ("at", .int a), ("left", .int l), ("tops", .lst (encN tp))]) = stD ns (a + 2) l tp := put_atE _ _ _ _ _
  have eQ : DO.dic (putK' "left" ((fun i j => D.int (i - j)) l 1) [("script", .scr ns), ("at", .int (a + 2)), ("left", .int l), ("tops", .lst (encN tp))]) = stD ns (a + 2) (l - 1) tp := put_leftE _ _ _ _ _
  rw [eP]
  walk_at "w"
  rw [setget hlt]
  walk_at "w"
  rw [setget hlt]
  refine ⟨(by show 4 < 1000; decide), ?_⟩
  rw [List.set_set]
  rw [eQ]
  walk_at "w"
  refine ⟨(by decide : (0 : Int) < 9), ?_⟩
  walk_at "w"
  refine ⟨(by decide : (0 : Int) < 9 ∧ (9 : Int) < _), ?_⟩
  walk_at "w"
  have tp1 := tok.pos
  refine ⟨(by omega : (0 : Int) < tp.length), ?_⟩
  have c1 := Int.emod_nonneg (c / 9) (b := (tp.length : Int)) (by omega)
  have c2 := Int.emod_lt_of_pos (c / 9) (b := (tp.length : Int)) (by omega)
  obtain ⟨b, hb⟩ : ∃ b : Nat, c / 9 % (tp.length : Int) = (b : Int) := ⟨(c / 9 % (tp.length : Int)).toNat, by omega⟩
  show R_l_row_7 n _ [some (.own hd), some (.int n), some (.int c), some (.int e), some (.int tp.length), some (.int (c % 9)), some (.int (c / 9 % (tp.length : Int))), none, none, none, none, none, none] (O.set hd (some (stD ns (a + 2) (l - 1) tp)))
  rw [hb]
  have bl : b < tp.length := by omega
  have put : ∀ s, SmW tp.length s → R (.tup [.str "put", .int b, encS s]) (O.set hd (some (stD ns (a + 2) (l - 1) tp))) := fun s hs =>
    h (.put b s) (a + 2) (l - 1) ⟨bl, hs⟩ (by show (1 : Int) ≤ _; omega) (by omega) (by omega)
  have rest : ¬ (c % 9 < 3 ∨ (n = 0 ∧ 4 < c % 9)) → R_l_row_8 n { nx := fun _ O' => R .non O', rt := R } [some (.own hd), some (.int n), some (.int c), some (.int e), some (.int tp.length), some (.int (c % 9)), some (.int b), none, none, none, none, none, none] (O.set hd (some (stD ns (a + 2) (l - 1) tp))) := fun hw =>
    row_rest hlt (by omega) (by omega) tok bl e0 c0 (fun r a' l' q1 q2 q3 q4 => h r a' l' q1 (by omega) (by omega) q4) hw
  walk_at "w"
  refine ifD (fun e1 => ?_) (fun e1 => ?_)
  · exact ⟨e, tp.length, b, rfl, e0, tok.pos, tok.few, bl, fun s hs => put s hs⟩
  · walk_at "w"
    refine ifD (fun e2 => ?_) (fun e2 => ?_)
    · walk_at "w"
      refine ifD (fun e3 => ?_) (fun e3 => ?_)
      · exact ⟨e, tp.length, b, rfl, e0, tok.pos, tok.few, bl, fun s hs => put s hs⟩
      · exact rest (by omega)
    · exact rest (by omega)
/-! ### _law_program -/
def N_l_program : List Str := ["_law_script", "_law_most", "_law_tops_here", "_law_state"]
def R_l_program : DS :=
  (dSeq (dAsg (dCall S_l_tops (dCons (dVar 0) dNil)) (dgName 2))
  (dSeq (dAsg (dDisp ["script", "at", "left", "tops"] (dCons (dVar 0) (dCons (dC (.int 4)) (dCons (dVar 1) (dCons (dVar 2) dNil))))) (dgName 3))
  (dRet (dTup (dCons (dVar 2) (dCons (dCall (S_l_rows 3) (dCons (dVar 3) (dCons (dC (.int 3)) (dCons (dOp modD (dCall S_l_at (dCons (dVar 0) (dCons (dC (.int 3)) dNil))) (dOp addD (dVar 1) (dC (.int 1)))) dNil)))) dNil))))))
def S_l_program : DSp := fun ds O R => ∃ (ns : List Int) (m : Nat), ds = [.scr ns, .int m] ∧ m ≤ 8 ∧ ∀ (tp : List Nat) (rs : List Row), TpOk tp → okRs tp.length rs 3 → cnts rs ≤ m + 1 → R (.tup [.lst (encN tp), .tup (encRs rs)]) O
theorem len_l_program (ds : List D) (O : Own) (R : D → Own → Prop) (h : S_l_program ds O R) : ds.length = 2 := by obtain ⟨_, _, rfl, _⟩ := h; rfl
theorem sem_l_program (ds : List D) (O : Own) (R : D → Own → Prop) (h : S_l_program ds O R) : R_l_program { nx := fun _ O' => Pure O R .non O', rt := Pure O R } (startD N_l_program ds) O := by
  obtain ⟨ns, m, rfl, hm, h⟩ := h
  refine ⟨ns, rfl, fun tp tok => ?_⟩
  walk_at "w"
  refine ⟨ns, 3, rfl, by decide, ?_⟩
  generalize ec : cellAt ns 3 = c
  have c0 : 0 ≤ c := ec ▸ cellAt_lo _ _
  walk_at "w"
  refine ⟨(by omega : (0 : Int) < (m : Int) + 1), ?_⟩
  have c1 := Int.emod_nonneg c (b := (m : Int) + 1) (by omega)
  have c2 := Int.emod_lt_of_pos c (b := (m : Int) + 1) (by omega)
  refine ⟨O.length, ns, 4, m, tp, c % ((m : Int) + 1), rfl, top_get, by decide, by omega, tok, c1, by omega, fun rs a' l' h1 h2 _ _ h4 => ?_⟩
  rw [top_set]
  exact ⟨_, top_take, .same (.tup (.cons (.lst (encN_hd tp)) (.cons (.tup (encRs_hd rs)) .nil))), h tp rs tok h1 (by omega)⟩
end DL

/-! The file programs: what its defs say of what is right and of what is not (law k02). -/
namespace DL
open PySem L2
local macro_rules | `(tactic| walk_at "w") => `(tactic| conv => whnf)
/-! ### what is no whole number, no number within two bounds -/
inductive NoInt : D → Prop
  | bl (b : Bool) : NoInt (.bl b)
  | non : NoInt .non
  | str (s : Str) : NoInt (.str s)
inductive Among (lo hi : Int) : D → Bool → Prop
  | int (t : Int) : Among lo hi (.int t) (decide (lo ≤ t ∧ t ≤ hi))
  | no {d : D} (h : NoInt d) : Among lo hi d false
def N_is_among : List Str := ["thing", "least", "most"]
def R_is_among : DS :=
  (dRet (dAndV (dIsi .int (dVar 0)) (dAndV (dNotV (dIsi .bl (dVar 0))) (dChain leD leD (dVar 1) (dVar 0) (dVar 2)))))
def S_is_among : DSp := fun ds O R => ∃ (d : D) (lo hi : Int) (b : Bool), ds = [d, .int lo, .int hi] ∧ Among lo hi d b ∧ R (.bl b) O
theorem len_is_among (ds : List D) (O : Own) (R : D → Own → Prop) (h : S_is_among ds O R) : ds.length = 3 := by obtain ⟨_, _, _, _, rfl, _⟩ := h; rfl
theorem sem_is_among (ds : List D) (O : Own) (R : D → Own → Prop) (h : S_is_among ds O R) : R_is_among { nx := fun _ O' => Pure O R .non O', rt := Pure O R } (startD N_is_among ds) O := by
  obtain ⟨d, lo, hi, b, rfl, am, h⟩ := h
  cases am with
  | int t =>
    walk_at "w"
    refine ifD (fun e1 => ?_) (fun e1 => ?_)
    · walk_at "w"
      refine ⟨.bl (decide (t ≤ hi)), List.take_length, .same (.bl _), ?_⟩
      have e : decide (lo ≤ t ∧ t ≤ hi) = decide (t ≤ hi) := by
        by_cases q : t ≤ hi
        · rw [decide_eq_true q, decide_eq_true ⟨e1, q⟩]
        · rw [decide_eq_false q, decide_eq_false fun z => q z.2]
      rw [← e]
      exact h
    · walk_at "w"
      refine ⟨.bl false, List.take_length, .same (.bl _), ?_⟩
      rw [decide_eq_false fun z => e1 z.1] at h
      exact h
  | no q =>
    cases q with
    | bl b => exact Pure.same (.bl _) h
    | non => exact Pure.same (.bl _) h
    | str s => exact Pure.same (.bl _) h
theorem among_t {lo hi t : Int} (h : lo ≤ t ∧ t ≤ hi) : Among lo hi (.int t) true := by have := Among.int (lo := lo) (hi := hi) t; rw [decide_eq_true h] at this; exact this
theorem among_f {lo hi t : Int} (h : ¬ (lo ≤ t ∧ t ≤ hi)) : Among lo hi (.int t) false := by have := Among.int (lo := lo) (hi := hi) t; rw [decide_eq_false h] at this; exact this
/-! ### sums -/
inductive BadSum (n : Nat) : D → Prop
  | lst (ds : List D) : BadSum n (.lst ds)
  | one (a : D) : BadSum n (.tup [a])
  | nums (ds : List D) (m : D) : BadSum n (.tup [.lst ds, m])
  | len (xs : List Int) (m : D) (h : ¬ xs.length = n) : BadSum n (.tup [.tup (encI xs), m])
  | more (xs : List Int) (m : D) (l : xs.length = n) (h : Among (-99) 99 m false) : BadSum n (.tup [.tup (encI xs), m])
  | num (g : List Int) (x : D) (r : List D) (m : Int) (l : g.length + 1 + r.length = n) (hg : ∀ y ∈ g, -9 ≤ y ∧ y ≤ 9) (hx : Among (-9) 9 x false) (hm : -99 ≤ m ∧ m ≤ 99) : BadSum n (.tup [.tup (encI g ++ x :: r), .int m])
def N_is_sum : List Str := ["thing", "many", "number"]
def R_is_sum : DS :=
  (dSeq (dIfS (dOr (dNot (dTest (dIsi .tup (dVar 0)))) (dOr (dTest (dOp neD (dCall1 lenD (dCons (dVar 0) dNil)) (dC (.int 2)))) (dNot (dTest (dIsi .tup (dOp ixD (dVar 0) (dC (.int 0)))))))) (dRet (dC (.bl false))) dNext)
  (dSeq (dIfS (dOr (dTest (dOp neD (dCall1 lenD (dCons (dOp ixD (dVar 0) (dC (.int 0))) dNil)) (dVar 1))) (dNot (dTest (dCall S_is_among (dCons (dOp ixD (dVar 0) (dC (.int 1))) (dCons (negD (dC (.int 99))) (dCons (dC (.int 99)) dNil))))))) (dRet (dC (.bl false))) dNext)
  (dSeq (dFor (diT (dOp ixD (dVar 0) (dC (.int 0)))) (dgName 2) (dIfS (dNot (dTest (dCall S_is_among (dCons (dVar 2) (dCons (negD (dC (.int 9))) (dCons (dC (.int 9)) dNil)))))) (dRet (dC (.bl false))) dNext))
  (dRet (dC (.bl true))))))
def S_is_sum : DSp := fun ds O R => ∃ (d : D) (n : Nat), ds = [d, .int n] ∧ ((∃ s, d = encS s ∧ SmW n s ∧ R (.bl true) O) ∨ (BadSum n d ∧ R (.bl false) O))
theorem len_is_sum (ds : List D) (O : Own) (R : D → Own → Prop) (h : S_is_sum ds O R) : ds.length = 2 := by obtain ⟨_, _, rfl, _⟩ := h; rfl
/-- a loop over what is good, then one that ends it -/
theorem forL_bad {α : Type} {g : DTg} {b : DS} {chk : Own → Prop} {E : DEnds} {x : D} {r : List D} (f : α → D) (I : DSt → Own → Prop) (P : α → Prop) (hc : ∀ δ O, I δ O → chk O) (step : ∀ a δ O nx, P a → I δ O → (∀ δ' O', I δ' O' → nx δ' O') → g (f a) δ O fun δ1 O1 => b { E with nx := nx, ct := nx, bk := E.nx } δ1 O1)
    (last : ∀ δ O nx, I δ O → g x δ O fun δ1 O1 => b { E with nx := nx, ct := nx, bk := E.nx } δ1 O1) : ∀ (l : List α) (δ : DSt) (O : Own), (∀ a ∈ l, P a) → I δ O → forL g b chk E (l.map f ++ x :: r) δ O
  | [], δ, O, _, h => ⟨hc _ _ h, last δ O _ h⟩
  | a :: l, δ, O, hp, h => ⟨hc _ _ h, step a δ O _ (hp a List.mem_cons_self) h fun δ' O' h' => forL_bad f I P hc step last l δ' O' (fun y hy => hp y (List.mem_cons_of_mem _ hy)) h'⟩
theorem sem_is_sum (ds : List D) (O : Own) (R : D → Own → Prop) (h : S_is_sum ds O R) : R_is_sum { nx := fun _ O' => Pure O R .non O', rt := Pure O R } (startD N_is_sum ds) O := by
  obtain ⟨d, n, rfl, ⟨s, rfl, ok, h⟩ | ⟨bad, h⟩⟩ := h
  · walk_at "w"
    rw [encI_length, ok.1]
    refine ifF (by rw [decide_eq_true rfl]; rfl) ?_
    refine ⟨.int s.2, -99, 99, true, rfl, among_t ok.2.2, ?_⟩
    walk_at "w"
    refine forL_inv D.int (fun l δ O' => O' = O ∧ (∃ c, δ = [some (encS s), some (.int n), c]) ∧ ∀ x ∈ l, -9 ≤ x ∧ x ≤ 9) (fun _ _ _ _ => trivial) ?_ ?_ s.1 _ _ ⟨rfl, ⟨none, rfl⟩, ok.2.1⟩
    · rintro x l δ O' nx ⟨rfl, ⟨c, rfl⟩, hx⟩ hn
      refine ⟨.int x, -9, 9, true, rfl, among_t (hx x List.mem_cons_self), ?_⟩
      walk_at "w"
      exact hn _ _ ⟨rfl, ⟨_, rfl⟩, fun y hy => hx y (List.mem_cons_of_mem _ hy)⟩
    · rintro δ O' ⟨rfl, ⟨c, rfl⟩, _⟩
      exact Pure.same (.bl _) h
  · have fin : Pure O R (.bl false) O := Pure.same (.bl _) h
    cases bad with
    | lst ds => exact fin
    | one a => exact fin
    | nums ds m => exact fin
    | len xs m hl =>
      walk_at "w"
      rw [encI_length]
      refine ifT (by rw [decide_eq_false (fun z => hl (by omega))]; rfl) ?_
      exact fin
    | more xs m l hm =>
      walk_at "w"
      rw [encI_length, l]
      refine ifF (by rw [decide_eq_true rfl]; rfl) ?_
      refine ⟨m, -99, 99, false, rfl, hm, ?_⟩
      exact fin
    | num g x r m l hg hx hm =>
      walk_at "w"
      have e1 : (encI g ++ x :: r).length = n := by rw [List.length_append, List.length_cons, encI_length]; omega
      rw [e1]
      refine ifF (by rw [decide_eq_true rfl]; rfl) ?_
      refine ⟨.int m, -99, 99, true, rfl, among_t hm, ?_⟩
      walk_at "w"
      refine forL_bad D.int (fun δ O' => O' = O ∧ ∃ a c, δ = [a, some (.int n), c]) (fun y => -9 ≤ y ∧ y ≤ 9) (fun _ _ _ => trivial) ?_ ?_ g _ _ hg ⟨rfl, _, none, rfl⟩
      · rintro y δ O' nx hy ⟨rfl, a, c, rfl⟩ hn
        refine ⟨.int y, -9, 9, true, rfl, among_t hy, ?_⟩
        walk_at "w"
        exact hn _ _ ⟨rfl, _, _, rfl⟩
      · rintro δ O' nx ⟨rfl, a, c, rfl⟩
        refine ⟨x, -9, 9, false, rfl, hx, ?_⟩
        exact fin
/-! ### words -/
inductive BadWords (n : Nat) : D → Prop
  | lst (ds : List D) : BadWords n (.lst ds)
  | non : BadWords n .non
  | many (ds : List D) (h : 3 < ds.length) : BadWords n (.tup ds)
  | one (x : D) (h : BadSum n x) : BadWords n (.tup [x])
def N_are_words : List Str := ["thing", "many", "one"]
def R_are_words : DS :=
  (dSeq (dIfS (dOr (dNot (dTest (dIsi .tup (dVar 0)))) (dTest (dOp gtD (dCall1 lenD (dCons (dVar 0) dNil)) (dC (.int 3))))) (dRet (dC (.bl false))) dNext)
  (dSeq (dFor (diT (dVar 0)) (dgName 2) (dIfS (dNot (dTest (dCall S_is_sum (dCons (dVar 2) (dCons (dVar 1) dNil))))) (dRet (dC (.bl false))) dNext))
  (dRet (dC (.bl true)))))
def S_are_words : DSp := fun ds O R => ∃ (d : D) (n : Nat), ds = [d, .int n] ∧ ((∃ ws, d = .tup (encSs ws) ∧ ws.length ≤ 3 ∧ (∀ w ∈ ws, SmW n w) ∧ R (.bl true) O) ∨ (BadWords n d ∧ R (.bl false) O))
theorem len_are_words (ds : List D) (O : Own) (R : D → Own → Prop) (h : S_are_words ds O R) : ds.length = 2 := by obtain ⟨_, _, rfl, _⟩ := h; rfl
theorem sem_are_words (ds : List D) (O : Own) (R : D → Own → Prop) (h : S_are_words ds O R) : R_are_words { nx := fun _ O' => Pure O R .non O', rt := Pure O R } (startD N_are_words ds) O := by
  obtain ⟨d, n, rfl, ⟨ws, rfl, hl, ok, h⟩ | ⟨bad, h⟩⟩ := h
  · walk_at "w"
    rw [encSs_length]
    refine ifF (decide_eq_false (by omega)) ?_
    walk_at "w"
    refine forL_inv encS (fun l δ O' => O' = O ∧ (∃ c, δ = [some (.tup (encSs ws)), some (.int n), c]) ∧ ∀ x ∈ l, SmW n x) (fun _ _ _ _ => trivial) ?_ ?_ ws _ _ ⟨rfl, ⟨none, rfl⟩, ok⟩
    · rintro x l δ O' nx ⟨rfl, ⟨c, rfl⟩, hx⟩ hn
      refine ⟨_, n, rfl, .inl ⟨x, rfl, hx x List.mem_cons_self, ?_⟩⟩
      walk_at "w"
      exact hn _ _ ⟨rfl, ⟨_, rfl⟩, fun y hy => hx y (List.mem_cons_of_mem _ hy)⟩
    · rintro δ O' ⟨rfl, ⟨c, rfl⟩, _⟩
      exact Pure.same (.bl _) h
  · have fin : Pure O R (.bl false) O := Pure.same (.bl _) h
    cases bad with
    | lst ds => exact fin
    | non => exact fin
    | many ds hl =>
      walk_at "w"
      refine ifT (decide_eq_true (by omega)) ?_
      exact fin
    | one x hx =>
      walk_at "w"
      refine ⟨trivial, ?_⟩
      refine ⟨x, n, rfl, .inr ⟨hx, ?_⟩⟩
      exact fin
/-! ### is_row, are_rows -/
theorem ok_put : PyData.strOk "put" = true := by decide +kernel
theorem ok_say : PyData.strOk "say" = true := by decide +kernel
theorem ok_if : PyData.strOk "if" = true := by decide +kernel
theorem ok_loop : PyData.strOk "loop" = true := by decide +kernel
/-- what is no row's word; q: the place of a dict -/
inductive NoTag (q : Option Nat) : D → Prop
  | str (s : Str) (ok : PyData.strOk s = true) (n : ¬ s = "put" ∧ ¬ s = "say" ∧ ¬ s = "if" ∧ ¬ s = "loop") : NoTag q (.str s)
  | non : NoTag q .non
  | bl (b : Bool) : NoTag q (.bl b)
  | int (i : Int) : NoTag q (.int i)
  | nil : NoTag q (.lst [])
  | lst (s : Str) (ok : PyData.strOk s = true) : NoTag q (.lst [.str s])
  | dic (h : Nat) (e : q = some h) : NoTag q (.own h)
def DicQ (O : Own) (q : Option Nat) : Prop := ∀ h, q = some h → ∃ gs, O[h]? = some (some (.dic gs))
theorem noTag_eq {O : Own} {q : Option Nat} {x : D} {w : Str} {R : D → Own → Prop} (dq : DicQ O q) (h : NoTag q x) (ok : PyData.strOk w = true) (nw : ∀ s, x = .str s → ¬ s = w) (g : R (.bl false) O) : eqTagD O x (.str w) R := by
  have gen : ∀ p : PyData, pyD O 40 x = some p → PyData.eqv p (.str w) = false → eqG O x (.str w) R := fun p e1 e2 => by
    unfold eqG
    rw [e1, py_str40 ok]
    show R (.bl (PyData.eqv p (.str w))) O
    rw [e2]
    exact g
  unfold eqTagD
  cases h with
  | str s oks n => exact strF (G := fun k => R (.bl k) O) oks ok (nw s rfl) g
  | non => exact gen _ rfl (by simp only [PyData.eqv])
  | bl b => exact gen _ rfl (by simp only [PyData.eqv])
  | int i => exact gen _ rfl (by simp only [PyData.eqv])
  | nil => exact gen _ rfl (by simp only [PyData.eqv])
  | lst s oks => exact gen _ ((Py.lst (.cons (Py.str oks) (.nil _))) O 40 (by decide)) (by simp only [PyData.eqv])
  | dic h e => exact ⟨dq h e, g⟩
theorem tagT {O : Own} {s : Str} {R : D → Own → Prop} (h : PyData.strOk s = true) (g : R (.bl true) O) : eqTagD O (.str s) (.str s) R := by
  unfold eqTagD
  exact strT (G := fun k => R (.bl k) O) h g
theorem tagF {O : Own} {s w : Str} {R : D → Own → Prop} (h : PyData.strOk s = true) (h2 : PyData.strOk w = true) (ne : ¬ s = w) (g : R (.bl false) O) : eqTagD O (.str s) (.str w) R := by
  unfold eqTagD
  exact strF (G := fun k => R (.bl k) O) h h2 ne g
mutual
inductive BadRow (q : Option Nat) (n : Nat) : Nat → D → Prop
  | lst {d : Nat} (ds : List D) : BadRow q n d (.lst ds)
  | non {d : Nat} : BadRow q n d .non
  | one {d : Nat} (a : D) : BadRow q n d (.tup [a])
  | tag2 {d : Nat} (x a : D) (h : NoTag q x) : BadRow q n d (.tup [x, a])
  | tag3 {d : Nat} (x a b : D) (h : NoTag q x) : BadRow q n d (.tup [x, a, b])
  | tag4 {d : Nat} (x : D) (s : Sm) (a b : D) (h : NoTag q x) (hs : SmW n s) : BadRow q n d (.tup [x, encS s, a, b])
  | put2 {d : Nat} (a : D) : BadRow q n d (.tup [.str "put", a])
  | put4 {d : Nat} (a b c : D) : BadRow q n d (.tup [.str "put", a, b, c])
  | putbox {d : Nat} (x y : D) (h : Among 0 ((n : Int) - 1) x false) : BadRow q n d (.tup [.str "put", x, y])
  | putsum {d : Nat} (b : Nat) (y : D) (hb : b < n) (h : BadSum n y) : BadRow q n d (.tup [.str "put", .int (b : Nat), y])
  | say3 {d : Nat} (a b : D) : BadRow q n d (.tup [.str "say", a, b])
  | saysum {d : Nat} (y : D) (h : BadSum n y) : BadRow q n d (.tup [.str "say", y])
  | in3 {d : Nat} (w : Str) (a b : D) (hw : w = "if" ∨ w = "loop") : BadRow q n d (.tup [.str w, a, b])
  | in5 {d : Nat} (w : Str) (a b c e : D) (hw : w = "if" ∨ w = "loop") : BadRow q n d (.tup [.str w, a, b, c, e])
  | deep (w : Str) (a b c : D) (hw : w = "if" ∨ w = "loop") : BadRow q n 0 (.tup [.str w, a, b, c])
  | insum {d : Nat} (w : Str) (y a b : D) (hw : w = "if" ∨ w = "loop") (h : BadSum n y) : BadRow q n d (.tup [.str w, y, a, b])
  | if1 {d : Nat} (s : Sm) (x y : D) (hs : SmW n s) (h : BadRows q n d x) : BadRow q n (d + 1) (.tup [.str "if", encS s, x, y])
  | if2 {d : Nat} (s : Sm) (a : List Row) (y : D) (hs : SmW n s) (ha : okRs n a d) (h : BadRows q n d y) : BadRow q n (d + 1) (.tup [.str "if", encS s, .tup (encRs a), y])
  | loopw {d : Nat} (s : Sm) (x y : D) (hs : SmW n s) (h : BadWords n x) : BadRow q n (d + 1) (.tup [.str "loop", encS s, x, y])
  | loopb {d : Nat} (s : Sm) (ws : List Sm) (y : D) (hs : SmW n s) (hl : ws.length ≤ 3) (hw : ∀ w ∈ ws, SmW n w) (h : BadRows q n d y) : BadRow q n (d + 1) (.tup [.str "loop", encS s, .tup (encSs ws), y])
inductive BadRows (q : Option Nat) (n : Nat) : Nat → D → Prop
  | lst {d : Nat} (ds : List D) : BadRows q n d (.lst ds)
  | non {d : Nat} : BadRows q n d .non
  | str {d : Nat} (s : Str) : BadRows q n d (.str s)
  | mid {d : Nat} (g : List Row) (x : D) (r : List D) (hg : okRs n g d) (h : BadRow q n d x) : BadRows q n d (.tup (encRs g ++ x :: r))
end
def S_is_row : Nat → DSp := fun d ds O R => ∃ (x : D) (n : Nat), ds = [x, .int n, .int d] ∧ ((∃ r, x = encR r ∧ okR n r d ∧ R (.bl true) O) ∨ ((∃ q, DicQ O q ∧ BadRow q n d x) ∧ R (.bl false) O))
def S_are_rows : Nat → DSp := fun d ds O R => ∃ (x : D) (n : Nat), ds = [x, .int n, .int d] ∧ ((∃ rs, x = .tup (encRs rs) ∧ okRs n rs d ∧ R (.bl true) O) ∨ ((∃ q, DicQ O q ∧ BadRows q n d x) ∧ R (.bl false) O))
def S_are_rowsP : Nat → DSp
  | 0 => fun _ _ _ => False
  | n + 1 => S_are_rows n
def N_is_row : List Str := ["thing", "many", "deep"]
def R_is_row (n : Nat) : DS :=
  (dSeq (dIfS (dOr (dNot (dTest (dIsi .tup (dVar 0)))) (dTest (dOp ltD (dCall1 lenD (dCons (dVar 0) dNil)) (dC (.int 2))))) (dRet (dC (.bl false))) dNext)
  (dSeq (dIfS (dTest (dOp eqTagD (dOp ixD (dVar 0) (dC (.int 0))) (dC (.str "put")))) (dRet (dAndV (dOp eqD (dCall1 lenD (dCons (dVar 0) dNil)) (dC (.int 3))) (dAndV (dCall S_is_among (dCons (dOp ixD (dVar 0) (dC (.int 1))) (dCons (dC (.int 0)) (dCons (dOp subD (dVar 1) (dC (.int 1))) dNil)))) (dCall S_is_sum (dCons (dOp ixD (dVar 0) (dC (.int 2))) (dCons (dVar 1) dNil)))))) dNext)
  (dSeq (dIfS (dTest (dOp eqTagD (dOp ixD (dVar 0) (dC (.int 0))) (dC (.str "say")))) (dRet (dAndV (dOp eqD (dCall1 lenD (dCons (dVar 0) dNil)) (dC (.int 2))) (dCall S_is_sum (dCons (dOp ixD (dVar 0) (dC (.int 1))) (dCons (dVar 1) dNil))))) dNext)
  (dSeq (dIfS (dOr (dTest (dOp neD (dCall1 lenD (dCons (dVar 0) dNil)) (dC (.int 4)))) (dOr (dTest (dOp eqD (dVar 2) (dC (.int 0)))) (dNot (dTest (dCall S_is_sum (dCons (dOp ixD (dVar 0) (dC (.int 1))) (dCons (dVar 1) dNil))))))) (dRet (dC (.bl false))) dNext)
  (dSeq (dIfS (dTest (dOp eqTagD (dOp ixD (dVar 0) (dC (.int 0))) (dC (.str "if")))) (dRet (dAndV (dCall (S_are_rowsP n) (dCons (dOp ixD (dVar 0) (dC (.int 2))) (dCons (dVar 1) (dCons (dOp subD (dVar 2) (dC (.int 1))) dNil)))) (dCall (S_are_rowsP n) (dCons (dOp ixD (dVar 0) (dC (.int 3))) (dCons (dVar 1) (dCons (dOp subD (dVar 2) (dC (.int 1))) dNil)))))) dNext)
  (dRet (dAndV (dOp eqTagD (dOp ixD (dVar 0) (dC (.int 0))) (dC (.str "loop"))) (dAndV (dCall S_are_words (dCons (dOp ixD (dVar 0) (dC (.int 2))) (dCons (dVar 1) dNil))) (dCall (S_are_rowsP n) (dCons (dOp ixD (dVar 0) (dC (.int 3))) (dCons (dVar 1) (dCons (dOp subD (dVar 2) (dC (.int 1))) dNil))))))))))))
def N_are_rows : List Str := ["thing", "many", "deep", "row"]
def R_are_rows (n : Nat) : DS :=
  (dSeq (dIfS (dNot (dTest (dIsi .tup (dVar 0)))) (dRet (dC (.bl false))) dNext)
  (dSeq (dFor (diT (dVar 0)) (dgName 3) (dIfS (dNot (dTest (dCall (S_is_row n) (dCons (dVar 3) (dCons (dVar 1) (dCons (dVar 2) dNil)))))) (dRet (dC (.bl false))) dNext))
  (dRet (dC (.bl true)))))
theorem len_is_row (n : Nat) (ds : List D) (O : Own) (R : D → Own → Prop) (h : S_is_row n ds O R) : ds.length = 3 := by obtain ⟨_, _, rfl, _⟩ := h; rfl
theorem len_are_rows (n : Nat) (ds : List D) (O : Own) (R : D → Own → Prop) (h : S_are_rows n ds O R) : ds.length = 3 := by obtain ⟨_, _, rfl, _⟩ := h; rfl
theorem sem_are_rows (d : Nat) (ds : List D) (O : Own) (R : D → Own → Prop) (h : S_are_rows d ds O R) : R_are_rows d { nx := fun _ O' => Pure O R .non O', rt := Pure O R } (startD N_are_rows ds) O := by
  obtain ⟨x, n, rfl, ⟨rs, rfl, ok, h⟩ | ⟨⟨q, dq, bad⟩, h⟩⟩ := h
  · walk_at "w"
    rw [encRs_map]
    refine forL_inv encR (fun l δ O' => O' = O ∧ (∃ a c, δ = [a, some (.int n), some (.int d), c]) ∧ ∀ x ∈ l, okR n x d) (fun _ _ _ _ => trivial) ?_ ?_ rs _ _ ⟨rfl, ⟨_, none, rfl⟩, okRs_mem ok⟩
    · rintro x l δ O' nx ⟨rfl, ⟨a, c, rfl⟩, hx⟩ hn
      refine ⟨_, n, rfl, .inl ⟨x, rfl, hx x List.mem_cons_self, ?_⟩⟩
      walk_at "w"
      exact hn _ _ ⟨rfl, ⟨_, _, rfl⟩, fun y hy => hx y (List.mem_cons_of_mem _ hy)⟩
    · rintro δ O' ⟨rfl, ⟨a, c, rfl⟩, _⟩
      exact Pure.same (.bl _) h
  · have fin : Pure O R (.bl false) O := Pure.same (.bl _) h
    cases bad with
    | lst ds => exact fin
    | non => exact fin
    | str s => exact fin
    | mid g x r hg hx =>
      walk_at "w"
      rw [encRs_map]
      refine forL_bad encR (fun δ O' => O' = O ∧ ∃ a c, δ = [a, some (.int n), some (.int d), c]) (fun y => okR n y d) (fun _ _ _ => trivial) ?_ ?_ g _ _ (okRs_mem hg) ⟨rfl, _, none, rfl⟩
      · rintro y δ O' nx hy ⟨rfl, a, c, rfl⟩ hn
        refine ⟨_, n, rfl, .inl ⟨y, rfl, hy, ?_⟩⟩
        walk_at "w"
        exact hn _ _ ⟨rfl, _, _, rfl⟩
      · rintro δ O' nx ⟨rfl, a, c, rfl⟩
        refine ⟨x, n, rfl, .inr ⟨⟨q, dq, hx⟩, ?_⟩⟩
        exact fin
theorem sem_is_row (d : Nat) (ds : List D) (O : Own) (R : D → Own → Prop) (h : S_is_row d ds O R) : R_is_row d { nx := fun _ O' => Pure O R .non O', rt := Pure O R } (startD N_is_row ds) O := by
  have subE : ∀ (n e : Nat) (x : D), [x, .int n, (fun i j => D.int (i - j)) ((e + 1 : Nat) : Int) 1] = [x, .int n, .int e] := fun n e x => by show [x, .int n, .int (((e + 1 : Nat) : Int) - 1)] = _; rw [show ((e + 1 : Nat) : Int) - 1 = (e : Int) from by omega]
  obtain ⟨x, n, rfl, ⟨r, rfl, ok, h⟩ | ⟨⟨q, dq, bad⟩, h⟩⟩ := h
  · cases r with
    | put b s =>
      obtain ⟨hb, hs⟩ := ok
      walk_at "w"
      refine tagT ok_put ?_
      walk_at "w"
      refine ⟨.int b, 0, (n : Int) - 1, true, rfl, among_t ⟨by omega, by omega⟩, ?_⟩
      exact ⟨_, n, rfl, .inl ⟨s, rfl, hs, Pure.same (.bl _) h⟩⟩
    | say s =>
      walk_at "w"
      refine tagF ok_say ok_put (by decide +kernel) ?_
      walk_at "w"
      refine tagT ok_say ?_
      exact ⟨_, n, rfl, .inl ⟨s, rfl, ok, Pure.same (.bl _) h⟩⟩
    | ite s a b =>
      obtain ⟨hd, hs, ha, hb⟩ := ok
      obtain ⟨e, rfl⟩ : ∃ e, d = e + 1 := ⟨d - 1, by omega⟩
      walk_at "w"
      refine tagF ok_if ok_put (by decide +kernel) ?_
      walk_at "w"
      refine tagF ok_if ok_say (by decide +kernel) ?_
      walk_at "w"
      refine ⟨_, n, rfl, .inl ⟨s, rfl, hs, ?_⟩⟩
      walk_at "w"
      refine tagT ok_if ?_
      refine ⟨_, n, subE n e _, .inl ⟨a, rfl, ha, ?_⟩⟩
      exact ⟨_, n, subE n e _, .inl ⟨b, rfl, hb, Pure.same (.bl _) h⟩⟩
    | loop s ws body =>
      obtain ⟨hd, hs, hw, hws, hb⟩ := ok
      obtain ⟨e, rfl⟩ : ∃ e, d = e + 1 := ⟨d - 1, by omega⟩
      walk_at "w"
      refine tagF ok_loop ok_put (by decide +kernel) ?_
      walk_at "w"
      refine tagF ok_loop ok_say (by decide +kernel) ?_
      walk_at "w"
      refine ⟨_, n, rfl, .inl ⟨s, rfl, hs, ?_⟩⟩
      walk_at "w"
      refine tagF ok_loop ok_if (by decide +kernel) ?_
      walk_at "w"
      refine tagT ok_loop ?_
      refine ⟨_, n, rfl, .inl ⟨ws, rfl, hw, hws, ?_⟩⟩
      exact ⟨_, n, subE n e _, .inl ⟨body, rfl, hb, Pure.same (.bl _) h⟩⟩
  · have fin : Pure O R (.bl false) O := Pure.same (.bl _) h
    have np : ∀ {x : D} (w : Str), NoTag q x → w = "put" ∨ w = "say" ∨ w = "if" ∨ w = "loop" → ∀ s, x = .str s → ¬ s = w := fun w hx hw s e => by
      subst e
      cases hx with
      | str s ok n =>
        rcases hw with rfl | rfl | rfl | rfl
        · exact n.1
        · exact n.2.1
        · exact n.2.2.1
        · exact n.2.2.2
    cases bad with
    | lst ds => exact fin
    | non => exact fin
    | one a => exact fin
    | tag2 x a hx =>
      have a1 := np "put" hx (.inl rfl)
      have a2 := np "say" hx (.inr (.inl rfl))
      walk_at "w"
      refine noTag_eq dq hx ok_put a1 ?_
      walk_at "w"
      refine noTag_eq dq hx ok_say a2 ?_
      exact fin
    | tag3 x a b hx =>
      have a1 := np "put" hx (.inl rfl)
      have a2 := np "say" hx (.inr (.inl rfl))
      walk_at "w"
      refine noTag_eq dq hx ok_put a1 ?_
      walk_at "w"
      refine noTag_eq dq hx ok_say a2 ?_
      exact fin
    | tag4 x s a b hx hs =>
      have a1 := np "put" hx (.inl rfl)
      have a2 := np "say" hx (.inr (.inl rfl))
      have a3 := np "if" hx (.inr (.inr (.inl rfl)))
      have a4 := np "loop" hx (.inr (.inr (.inr rfl)))
      walk_at "w"
      refine noTag_eq dq hx ok_put a1 ?_
      walk_at "w"
      refine noTag_eq dq hx ok_say a2 ?_
      cases d with
      | zero => exact fin
      | succ e =>
        walk_at "w"
        refine ⟨_, n, rfl, .inl ⟨s, rfl, hs, ?_⟩⟩
        walk_at "w"
        refine noTag_eq dq hx ok_if a3 ?_
        walk_at "w"
        refine noTag_eq dq hx ok_loop a4 ?_
        exact fin
    | put2 a =>
      walk_at "w"
      refine tagT ok_put ?_
      exact fin
    | put4 a b c =>
      walk_at "w"
      refine tagT ok_put ?_
      exact fin
    | putbox x y hx =>
      walk_at "w"
      refine tagT ok_put ?_
      walk_at "w"
      refine ⟨x, 0, (n : Int) - 1, false, rfl, hx, ?_⟩
      exact fin
    | putsum b y hb hy =>
      walk_at "w"
      refine tagT ok_put ?_
      walk_at "w"
      refine ⟨.int b, 0, (n : Int) - 1, true, rfl, among_t ⟨by omega, by omega⟩, ?_⟩
      exact ⟨_, n, rfl, .inr ⟨hy, fin⟩⟩
    | say3 a b =>
      walk_at "w"
      refine tagF ok_say ok_put (by decide +kernel) ?_
      walk_at "w"
      refine tagT ok_say ?_
      exact fin
    | saysum y hy =>
      walk_at "w"
      refine tagF ok_say ok_put (by decide +kernel) ?_
      walk_at "w"
      refine tagT ok_say ?_
      exact ⟨_, n, rfl, .inr ⟨hy, fin⟩⟩
    | in3 w a b hw =>
      rcases hw with rfl | rfl
      · walk_at "w"
        refine tagF ok_if ok_put (by decide +kernel) ?_
        walk_at "w"
        refine tagF ok_if ok_say (by decide +kernel) ?_
        exact fin
      · walk_at "w"
        refine tagF ok_loop ok_put (by decide +kernel) ?_
        walk_at "w"
        refine tagF ok_loop ok_say (by decide +kernel) ?_
        exact fin
    | in5 w a b c e hw =>
      rcases hw with rfl | rfl
      · walk_at "w"
        refine tagF ok_if ok_put (by decide +kernel) ?_
        walk_at "w"
        refine tagF ok_if ok_say (by decide +kernel) ?_
        exact fin
      · walk_at "w"
        refine tagF ok_loop ok_put (by decide +kernel) ?_
        walk_at "w"
        refine tagF ok_loop ok_say (by decide +kernel) ?_
        exact fin
    | deep w a b c hw =>
      rcases hw with rfl | rfl
      · walk_at "w"
        refine tagF ok_if ok_put (by decide +kernel) ?_
        walk_at "w"
        refine tagF ok_if ok_say (by decide +kernel) ?_
        exact fin
      · walk_at "w"
        refine tagF ok_loop ok_put (by decide +kernel) ?_
        walk_at "w"
        refine tagF ok_loop ok_say (by decide +kernel) ?_
        exact fin
    | insum w y a b hw hy =>
      rcases hw with rfl | rfl
      · walk_at "w"
        refine tagF ok_if ok_put (by decide +kernel) ?_
        walk_at "w"
        refine tagF ok_if ok_say (by decide +kernel) ?_
        cases d with
        | zero => exact fin
        | succ e =>
          walk_at "w"
          refine ⟨_, n, rfl, .inr ⟨hy, ?_⟩⟩
          exact fin
      · walk_at "w"
        refine tagF ok_loop ok_put (by decide +kernel) ?_
        walk_at "w"
        refine tagF ok_loop ok_say (by decide +kernel) ?_
        cases d with
        | zero => exact fin
        | succ e =>
          walk_at "w"
          refine ⟨_, n, rfl, .inr ⟨hy, ?_⟩⟩
          exact fin
    | @if1 e s x y hs hx =>
      walk_at "w"
      refine tagF ok_if ok_put (by decide +kernel) ?_
      walk_at "w"
      refine tagF ok_if ok_say (by decide +kernel) ?_
      walk_at "w"
      refine ⟨_, n, rfl, .inl ⟨s, rfl, hs, ?_⟩⟩
      walk_at "w"
      refine tagT ok_if ?_
      refine ⟨_, n, subE n e _, .inr ⟨⟨q, dq, hx⟩, ?_⟩⟩
      exact fin
    | @if2 e s a y hs ha hy =>
      walk_at "w"
      refine tagF ok_if ok_put (by decide +kernel) ?_
      walk_at "w"
      refine tagF ok_if ok_say (by decide +kernel) ?_
      walk_at "w"
      refine ⟨_, n, rfl, .inl ⟨s, rfl, hs, ?_⟩⟩
      walk_at "w"
      refine tagT ok_if ?_
      refine ⟨_, n, subE n e _, .inl ⟨a, rfl, ha, ?_⟩⟩
      exact ⟨_, n, subE n e _, .inr ⟨⟨q, dq, hy⟩, fin⟩⟩
    | @loopw e s x y hs hx =>
      walk_at "w"
      refine tagF ok_loop ok_put (by decide +kernel) ?_
      walk_at "w"
      refine tagF ok_loop ok_say (by decide +kernel) ?_
      walk_at "w"
      refine ⟨_, n, rfl, .inl ⟨s, rfl, hs, ?_⟩⟩
      walk_at "w"
      refine tagF ok_loop ok_if (by decide +kernel) ?_
      walk_at "w"
      refine tagT ok_loop ?_
      refine ⟨_, n, rfl, .inr ⟨hx, ?_⟩⟩
      exact fin
    | @loopb e s ws y hs hl hw hy =>
      walk_at "w"
      refine tagF ok_loop ok_put (by decide +kernel) ?_
      walk_at "w"
      refine tagF ok_loop ok_say (by decide +kernel) ?_
      walk_at "w"
      refine ⟨_, n, rfl, .inl ⟨s, rfl, hs, ?_⟩⟩
      walk_at "w"
      refine tagF ok_loop ok_if (by decide +kernel) ?_
      walk_at "w"
      refine tagT ok_loop ?_
      refine ⟨_, n, rfl, .inl ⟨ws, rfl, hl, hw, ?_⟩⟩
      exact ⟨_, n, subE n e _, .inr ⟨⟨q, dq, hy⟩, fin⟩⟩
/-! ### inner_rows, count -/
def innerR : Row → List (List Row)
  | .put _ _ => []
  | .say _ => []
  | .ite _ a b => [a, b]
  | .loop _ _ b => [b]
def N_inner_rows : List Str := ["row"]
def R_inner_rows : DS :=
  (dSeq (dIfS (dTest (dOp eqD (dOp ixD (dVar 0) (dC (.int 0))) (dC (.str "if")))) (dRet (dFrz (dLst (dCons (dOp ixD (dVar 0) (dC (.int 2))) (dCons (dOp ixD (dVar 0) (dC (.int 3))) dNil))))) dNext)
  (dSeq (dIfS (dTest (dOp eqD (dOp ixD (dVar 0) (dC (.int 0))) (dC (.str "loop")))) (dRet (dFrz (dLst (dCons (dOp ixD (dVar 0) (dC (.int 3))) dNil)))) dNext)
  (dRet (dFrz (dLst dNil)))))
def S_inner_rows : DSp := fun ds O R => ∃ r : Row, ds = [encR r] ∧ R (.lst ((innerR r).map fun x => .tup (encRs x))) O
theorem len_inner_rows (ds : List D) (O : Own) (R : D → Own → Prop) (h : S_inner_rows ds O R) : ds.length = 1 := by obtain ⟨_, rfl, _⟩ := h; rfl
theorem sem_inner_rows (ds : List D) (O : Own) (R : D → Own → Prop) (h : S_inner_rows ds O R) : R_inner_rows { nx := fun _ O' => Pure O R .non O', rt := Pure O R } (startD N_inner_rows ds) O := by
  obtain ⟨r, rfl, h⟩ := h
  cases r with
  | put b s =>
    walk_at "w"
    refine strF ok_put ok_if (by decide +kernel) ?_
    walk_at "w"
    refine strF ok_put ok_loop (by decide +kernel) ?_
    exact Pure.same (.lst .nil) h
  | say s =>
    walk_at "w"
    refine strF ok_say ok_if (by decide +kernel) ?_
    walk_at "w"
    refine strF ok_say ok_loop (by decide +kernel) ?_
    exact Pure.same (.lst .nil) h
  | ite s a b =>
    walk_at "w"
    refine strT ok_if ?_
    exact Pure.same (.lst (.cons (.tup (encRs_hd a)) (.cons (.tup (encRs_hd b)) .nil))) h
  | loop s ws b =>
    walk_at "w"
    refine strF ok_loop ok_if (by decide +kernel) ?_
    walk_at "w"
    refine strT ok_loop ?_
    exact Pure.same (.lst (.cons (.tup (encRs_hd b)) .nil)) h
def S_count : Nat → DSp
  | 0 => fun _ _ _ => False
  | d + 1 => fun ds O R => ∃ (rs : List Row) (n : Nat), ds = [.tup (encRs rs)] ∧ okRs n rs d ∧ R (.int (cnts rs : Nat)) O
def N_count : List Str := ["rows", "found", "row", "inner"]
def R_count (n : Nat) : DS :=
  (dSeq (dAsg (dCall1 lenD (dCons (dVar 0) dNil)) (dgName 1))
  (dSeq (dFor (diT (dVar 0)) (dgName 2) (dFor (diL (dCall S_inner_rows (dCons (dVar 2) dNil))) (dgName 3) (dAsg (dOp addD (dVar 1) (dCall (S_count n) (dCons (dVar 3) dNil))) (dgName 1))))
  (dRet (dVar 1))))
theorem len_count (n : Nat) (ds : List D) (O : Own) (R : D → Own → Prop) (h : S_count (n + 1) ds O R) : ds.length = 1 := by obtain ⟨_, _, rfl, _⟩ := h; rfl
theorem innerR_ok {n d : Nat} {r : Row} (h : okR n r d) : ∀ x ∈ innerR r, 0 < d ∧ okRs n x (d - 1) := by
  cases r with
  | put b s => intro x hx; cases hx
  | say s => intro x hx; cases hx
  | ite s a b =>
    intro x hx
    rcases List.mem_cons.mp hx with z | z
    · rw [z]; exact ⟨h.1, h.2.2.1⟩
    · rw [List.mem_singleton.mp z]; exact ⟨h.1, h.2.2.2⟩
  | loop s ws b =>
    intro x hx
    rw [List.mem_singleton.mp hx]
    exact ⟨h.1, h.2.2.2.2⟩
def sumC : List (List Row) → Nat
  | [] => 0
  | x :: l => cnts x + sumC l
theorem innerR_cnt (r : Row) : cntR r = 1 + sumC (innerR r) := by
  cases r with
  | put b s => rfl
  | say s => rfl
  | ite s a b => show 1 + cnts a + cnts b = 1 + (cnts a + (cnts b + 0)); omega
  | loop s ws b => show 1 + cnts b = 1 + (cnts b + 0); omega
theorem sem_count (d : Nat) (ds : List D) (O : Own) (R : D → Own → Prop) (h : S_count (d + 1) ds O R) : R_count d { nx := fun _ O' => Pure O R .non O', rt := Pure O R } (startD N_count ds) O := by
  obtain ⟨rs, n, rfl, ok, h⟩ := h
  walk_at "w"
  rw [encRs_length]
  rw [encRs_map]
  -- what is found so far and what is left make the whole
  refine forL_inv encR (fun l δ O' => O' = O ∧ (∃ a c e, ∃ m : Nat, m + (l.map fun r => sumC (innerR r)).sum = cnts rs ∧ δ = [a, some (.int (m : Nat)), c, e]) ∧ ∀ x ∈ l, okR n x d) (fun _ _ _ _ => trivial) ?_ ?_ rs _ _ ⟨rfl, ⟨_, none, none, rs.length, ?_, rfl⟩, okRs_mem ok⟩
  · rintro x l δ O' nx ⟨rfl, ⟨a, c, e, m, hm, rfl⟩, hx⟩ hn
    refine ⟨x, rfl, ?_⟩
    walk_at "w"
    have hin := innerR_ok (hx x List.mem_cons_self)
    rw [List.map_cons, List.sum_cons] at hm
    refine forL_inv (fun y : List Row => D.tup (encRs y)) (fun k δ O1 => O1 = O' ∧ (∃ e, ∃ m2 : Nat, m2 + sumC k + (l.map fun r => sumC (innerR r)).sum = cnts rs ∧ δ = [a, some (.int (m2 : Nat)), some (encR x), e]) ∧ ∀ y ∈ k, 0 < d ∧ okRs n y (d - 1)) (fun _ _ _ h => by rw [h.1]; rfl) ?_ ?_ (innerR x) _ _ ⟨rfl, ⟨e, m, by omega, rfl⟩, hin⟩
    · rintro y k δ O1 nx2 ⟨rfl, ⟨e2, m2, hm2, rfl⟩, hy⟩ hn2
      obtain ⟨d1, d2⟩ := hy y List.mem_cons_self
      obtain ⟨e3, rfl⟩ : ∃ e3, d = e3 + 1 := ⟨d - 1, by omega⟩
      refine ⟨y, n, rfl, d2, ?_⟩
      walk_at "w"
      refine hn2 _ _ ⟨rfl, ⟨some (.tup (encRs y)), m2 + cnts y, ?_, rfl⟩, fun z hz => hy z (List.mem_cons_of_mem _ hz)⟩
      have : sumC (y :: k) = cnts y + sumC k := rfl
      omega
    · rintro δ O1 ⟨rfl, ⟨e2, m2, hm2, rfl⟩, _⟩
      refine hn _ _ ⟨rfl, ⟨a, some (encR x), e2, m2, ?_, rfl⟩, fun z hz => hx z (List.mem_cons_of_mem _ hz)⟩
      have : sumC [] = 0 := rfl
      omega
  · rintro δ O' ⟨rfl, ⟨a, c, e, m, hm, rfl⟩, _⟩
    have : m = cnts rs := by simpa using hm
    rw [this]
    exact Pure.same (.int _) h
  · have : ∀ l : List Row, l.length + (l.map fun r => sumC (innerR r)).sum = cnts l := by
      intro l
      induction l with
      | nil => rfl
      | cons r l ih =>
        have := innerR_cnt r
        show (l.length + 1) + ((sumC (innerR r) :: l.map fun r => sumC (innerR r))).sum = cntR r + cnts l
        rw [List.sum_cons]
        omega
    exact this rs
/-! ### are_tops -/
def N_are_tops : List Str := ["thing", "top"]
def R_are_tops : DS :=
  (dSeq (dIfS (dOr (dNot (dTest (dIsi .lst (dVar 0)))) (dNot (dTest (dChain leD leD (dC (.int 1)) (dCall1 lenD (dCons (dVar 0) dNil)) (dC (.int 3)))))) (dRet (dC (.bl false))) dNext)
  (dSeq (dFor (diL (dVar 0)) (dgName 1) (dIfS (dNot (dTest (dCall S_is_among (dCons (dVar 1) (dCons (dC (.int 0)) (dCons (dC (.int 9)) dNil)))))) (dRet (dC (.bl false))) dNext))
  (dRet (dC (.bl true)))))
inductive BadTops : D → Prop
  | tup (ds : List D) : BadTops (.tup ds)
  | non : BadTops .non
  | nil : BadTops (.lst [])
  | four (ds : List D) (h : 3 < ds.length) : BadTops (.lst ds)
  | last (g : List Nat) (x : D) (l : g.length + 1 ≤ 3) (hg : ∀ t ∈ g, t ≤ 9) (h : Among 0 9 x false) : BadTops (.lst (encN g ++ [x]))
def S_are_tops : DSp := fun ds O R => ∃ d1 : D, ds = [d1] ∧ ((∃ tp, asL O d1 = some (encN tp) ∧ TpOk tp ∧ R (.bl true) O) ∨ (BadTops d1 ∧ R (.bl false) O))
theorem len_are_tops (ds : List D) (O : Own) (R : D → Own → Prop) (h : S_are_tops ds O R) : ds.length = 1 := by obtain ⟨_, rfl, _⟩ := h; rfl
theorem tops_good {d1 : D} {O : Own} {R : D → Own → Prop} {tp : List Nat} (h1 : asL O d1 = some (encN tp)) (ok : TpOk tp) (h : R (.bl true) O) : R_are_tops { nx := fun _ O' => Pure O R .non O', rt := Pure O R } (startD N_are_tops [d1]) O := by
  have t1 : tyD O d1 = some .lst := by
    rcases asL_cases h1 with rfl | ⟨k, rfl, -⟩
    · rfl
    · unfold asL at h1
      unfold tyD
      dsimp only at h1 ⊢
      split at h1
      · rename_i q; rw [q]
      · cases h1
  have p1 := ok.pos
  have p3 := ok.few
  rcases asL_cases h1 with rfl | ⟨k, rfl, -⟩
  all_goals
    walk_at "w"
    try (rw [t1]; walk_at "w"; rw [h1]; walk_at "w")
    rw [encN_length]
    refine ifD (fun e1 => ?_) (fun e1 => (e1 (by omega)).elim)
    walk_at "w"
    refine ifNB (decide_cases () (fun e1 => ?_) (fun e1 => (e1 (by omega)).elim))
    walk_at "w"
    try rw [h1]
    refine forL_inv (fun t : Nat => D.int ((t : Nat) : Int)) (fun l δ O' => O' = O ∧ (∃ a c, δ = [a, c]) ∧ ∀ x ∈ l, x ≤ 9) (fun _ _ _ h => by rw [h.1]; exact h1) ?_ ?_ tp _ _ ⟨rfl, ⟨_, none, rfl⟩, ok.le⟩
    · rintro x l δ O' nx ⟨rfl, ⟨a, c, rfl⟩, hx⟩ hn
      refine ⟨.int (x : Int), 0, 9, true, rfl, among_t ⟨by omega, by have := hx x List.mem_cons_self; omega⟩, ?_⟩
      walk_at "w"
      exact hn _ _ ⟨rfl, ⟨_, _, rfl⟩, fun y hy => hx y (List.mem_cons_of_mem _ hy)⟩
    · rintro δ O' ⟨rfl, ⟨a, c, rfl⟩, _⟩
      exact Pure.same (.bl _) h
theorem sem_are_tops (ds : List D) (O : Own) (R : D → Own → Prop) (h : S_are_tops ds O R) : R_are_tops { nx := fun _ O' => Pure O R .non O', rt := Pure O R } (startD N_are_tops ds) O := by
  obtain ⟨d1, rfl, ⟨tp, h1, ok, h⟩ | ⟨bad, h⟩⟩ := h
  · exact tops_good h1 ok h
  · have fin : Pure O R (.bl false) O := Pure.same (.bl _) h
    cases bad with
    | tup ds => exact fin
    | non => exact fin
    | nil => exact fin
    | four ds hl =>
      walk_at "w"
      refine ifD (fun e1 => ?_) (fun _ => ?_)
      · walk_at "w"
        refine ifNB (decide_cases () (fun e1 => ?_) (fun e1 => ?_))
        · exact absurd e1 (by omega)
        · exact fin
      · exact fin
    | last g x l hg hx =>
      walk_at "w"
      have e1 : (encN g ++ [x]).length = g.length + 1 := by rw [List.length_append, encN_length]; rfl
      rw [e1]
      refine ifD (fun _ => ?_) (fun z => (z (by omega)).elim)
      walk_at "w"
      refine ifNB (decide_cases () (fun _ => ?_) (fun z => (z (by omega)).elim))
      walk_at "w"
      refine forL_bad (fun t : Nat => D.int ((t : Nat) : Int)) (fun δ O' => O' = O ∧ ∃ a c, δ = [a, c]) (fun y => y ≤ 9) (fun _ _ z => rfl) ?_ ?_ g _ _ hg ⟨rfl, _, none, rfl⟩
      · rintro y δ O' nx hy ⟨rfl, a, c, rfl⟩ hn
        refine ⟨.int (y : Int), 0, 9, true, rfl, among_t ⟨by omega, by omega⟩, ?_⟩
        walk_at "w"
        exact hn _ _ ⟨rfl, _, _, rfl⟩
      · rintro δ O' nx ⟨rfl, a, c, rfl⟩
        refine ⟨x, 0, 9, false, rfl, hx, ?_⟩
        exact fin
end DL

/-! The class Program. -/
namespace DL
open PySem L2
local macro_rules | `(tactic| walk_at "w") => `(tactic| conv => whnf)
/-- a for over told items by their places -/
theorem forL_rngI {α : Type} (f : α → D) (l : List α) {g : DTg} {b : DS} {chk : Own → Prop} {E : DEnds} (I : Nat → DSt → Own → Prop) {δ : DSt} {O : Own} (h : I 0 δ O) (hc : ∀ j δ O, I j δ O → chk O)
    (step : ∀ j a δ O nx, j < l.length → l[j]? = some a → I j δ O → (∀ δ' O', I (j + 1) δ' O' → nx δ' O') → g (f a) δ O fun δ1 O1 => b { E with nx := nx, ct := nx, bk := E.nx } δ1 O1)
    (done : ∀ δ O, I l.length δ O → E.nx δ O) : forL g b chk E (l.map f) δ O := by
  have go : ∀ (k j : Nat) (m : List α) (δ : DSt) (O : Own), j + k = l.length → m = l.drop j → I j δ O → forL g b chk E (m.map f) δ O := by
    intro k
    induction k with
    | zero =>
      intro j m δ O e em h
      have : j = l.length := by omega
      subst this
      rw [em, List.drop_eq_nil_of_le (Nat.le_refl _)]
      exact ⟨hc _ _ _ h, done _ _ h⟩
    | succ k ih =>
      intro j m δ O e em h
      have hj : j < l.length := by omega
      rw [em, List.drop_eq_getElem_cons hj]
      exact ⟨hc _ _ _ h, step j l[j] δ O _ hj (List.getElem?_eq_getElem hj) h fun δ' O' h' => ih (j + 1) _ δ' O' (by omega) rfl h'⟩
  exact go l.length 0 l δ O (by omega) rfl h
def encPr (C : Addr) (tp : List Nat) (rs : List Row) : D := .ins C [("tops", .lst (encN tp)), ("rows", .tup (encRs rs))]
theorem encPr_hd {n : Nat} (C : Addr) (tp : List Nat) (rs : List Row) : Hd n (encPr C tp rs) := .ins (.cons (.lst (encN_hd tp)) (.cons (.tup (encRs_hd rs)) .nil))
structure PrOk (tp : List Nat) (rs : List Row) : Prop where
  top : TpOk tp
  row : okRs tp.length rs 3
  few : cnts rs ≤ 12
def N_Program_init : List Str := ["self", "tops", "rows"]
def R_Program_init (cProgram : Addr) : DS :=
  (dSeq (dIfS (dOr (dNot (dTest (dCall S_are_tops (dCons (dVar 1) dNil)))) (dOr (dNot (dTest (dCall (S_are_rows 3) (dCons (dVar 2) (dCons (dCall1 lenD (dCons (dVar 1) dNil)) (dCons (dC (.int 3)) dNil)))))) (dTest (dOp gtD (dCall (S_count 4) (dCons (dVar 2) dNil)) (dC (.int 12)))))) dNever dNext)
  (dSeq (dsFld cProgram (dVar 0) (dFrz (dList (dVar 1))) "tops")
  (dsFld cProgram (dVar 0) (dVar 2) "rows")))
def S_Program_init (C : Addr) : DSp := fun ds O R => ∃ (h : Nat) (d1 : D) (tp : List Nat) (rs : List Row), ds = [.own h, d1, .tup (encRs rs)] ∧ O[h]? = some (some (.ins C [])) ∧ asL O d1 = some (encN tp) ∧ PrOk tp rs ∧ R .non (O.set h (some (.ins C [("tops", .lst (encN tp)), ("rows", .tup (encRs rs))])))
theorem len_Program_init (C : Addr) (ds : List D) (O : Own) (R : D → Own → Prop) (h : S_Program_init C ds O R) : ds.length = 3 := by obtain ⟨_, _, _, _, rfl, _⟩ := h; rfl
theorem sem_Program_init (C : Addr) (ds : List D) (O : Own) (R : D → Own → Prop) (h : S_Program_init C ds O R) : R_Program_init C { nx := fun _ O' => R .non O', rt := R } (startD N_Program_init ds) O := by
  obtain ⟨hd, d1, tp, rs, rfl, hO, h1, ok, h⟩ := h
  have hlt : hd < O.length := (List.getElem?_eq_some_iff.mp hO).1
  refine ⟨d1, rfl, .inl ⟨tp, h1, ok.top, ?_⟩⟩
  rcases asL_cases h1 with rfl | ⟨k, rfl, -⟩
  all_goals
    walk_at "w"
    try (rw [h1]; walk_at "w")
    refine ⟨.tup (encRs rs), tp.length, (by show [D.tup (encRs rs), .int (encN tp).length, .int 3] = _; rw [encN_length]; rfl), .inl ⟨rs, rfl, ok.row, ?_⟩⟩
    refine ⟨rs, tp.length, rfl, ok.row, ?_⟩
    walk_at "w"
    refine ifF (decide_eq_false (by have := ok.few; omega)) ?_
    walk_at "w"
    try (rw [h1]; walk_at "w")
    rw [hO]
    refine ⟨rfl, (by show 0 < 1000; decide), ?_⟩
    walk_at "w"
    rw [setget hlt]
    refine ⟨rfl, (by show 1 < 1000; decide), ?_⟩
    rw [List.set_set]
    exact h
/-! what is no program -/
inductive BadPr (O : Own) : D → D → Prop
  | tops (d1 d2 : D) (h : BadTops d1) : BadPr O d1 d2
  | rows (d1 d2 : D) (tp : List Nat) (q : Option Nat) (e : asL O d1 = some (encN tp)) (ok : TpOk tp) (dq : DicQ O q) (h : BadRows q tp.length 3 d2) : BadPr O d1 d2
  | many (d1 : D) (tp : List Nat) (rs : List Row) (e : asL O d1 = some (encN tp)) (ok : TpOk tp) (h : okRs tp.length rs 3) (m : 12 < cnts rs) : BadPr O d1 (.tup (encRs rs))
theorem DicQ.up {O l : Own} {q : Option Nat} (h : DicQ O q) : DicQ (O ++ l) q := fun k e => by
  obtain ⟨gs, g⟩ := h k e
  exact ⟨gs, by rw [low_get (List.getElem?_eq_some_iff.mp g).1]; exact g⟩
theorem BadPr.up {O l : Own} {d1 d2 : D} (h : BadPr O d1 d2) : BadPr (O ++ l) d1 d2 := by
  cases h with
  | tops _ h => exact .tops _ _ h
  | rows _ tp q e ok dq h => exact .rows _ _ tp q (asL_up e) ok dq.up h
  | many tp rs e ok h m => exact .many _ tp rs (asL_up e) ok h m
def N_Program_initX : List Str := ["self", "tops", "rows"]
def R_Program_initX (cProgram : Addr) (cBadProgram : Addr) (xw : XW) : DS :=
  (dSeq (dIfS (dOr (dNot (dTest (dCall S_are_tops (dCons (dVar 1) dNil)))) (dOr (dNot (dTest (dCall (S_are_rows 3) (dCons (dVar 2) (dCons (dCall1 lenD (dCons (dVar 1) dNil)) (dCons (dC (.int 3)) dNil)))))) (dTest (dOp gtD (dCall (S_count 4) (dCons (dVar 2) dNil)) (dC (.int 12)))))) (dRaise cBadProgram xw) dNext)
  (dSeq (dsFld cProgram (dVar 0) (dFrz (dList (dVar 1))) "tops")
  (dsFld cProgram (dVar 0) (dVar 2) "rows")))
def S_Program_initX (C cB : Addr) : DSpX := fun ds O R RX => ∃ (h : Nat) (d1 d2 : D), ds = [.own h, d1, d2] ∧ BadPr O d1 d2 ∧ RX cB O
theorem len_Program_initX (C cB : Addr) (ds : List D) (O : Own) (R : D → Own → Prop) (RX : Addr → Own → Prop) (h : S_Program_initX C cB ds O R RX) : ds.length = 3 := by obtain ⟨_, _, _, rfl, _⟩ := h; rfl
theorem sem_Program_initX (C cB : Addr) (ds : List D) (O : Own) (R : D → Own → Prop) (RX : Addr → Own → Prop) (h : S_Program_initX C cB ds O R RX) : R_Program_initX C cB (fun C _ O' => RX C O') { nx := fun _ O' => R .non O', rt := R } (startD N_Program_initX ds) O := by
  obtain ⟨hd, d1, d2, rfl, bad, h⟩ := h
  cases bad with
  | tops _ bt =>
    refine ⟨d1, rfl, .inr ⟨bt, ?_⟩⟩
    exact h
  | rows _ tp q h1 ok dq bad =>
    refine ⟨d1, rfl, .inl ⟨tp, h1, ok, ?_⟩⟩
    rcases asL_cases h1 with rfl | ⟨k, rfl, -⟩
    all_goals
      walk_at "w"
      try (rw [h1]; walk_at "w")
      refine ⟨d2, tp.length, (by show [d2, .int (encN tp).length, .int 3] = _; rw [encN_length]; rfl), .inr ⟨⟨q, dq, bad⟩, ?_⟩⟩
      exact h
  | many tp rs h1 ok row m =>
    refine ⟨d1, rfl, .inl ⟨tp, h1, ok, ?_⟩⟩
    rcases asL_cases h1 with rfl | ⟨k, rfl, -⟩
    all_goals
      walk_at "w"
      try (rw [h1]; walk_at "w")
      refine ⟨_, tp.length, (by show [D.tup (encRs rs), .int (encN tp).length, .int 3] = _; rw [encN_length]; rfl), .inl ⟨rs, rfl, row, ?_⟩⟩
      refine ⟨rs, tp.length, rfl, row, ?_⟩
      walk_at "w"
      refine ifT (decide_eq_true (by omega)) ?_
      exact h
def N_Program_row : List Str := ["self", "place", "found", "at"]
def R_Program_row (cProgram : Addr) : DS :=
  (dSeq (dAsg (dOp ixD (dFld cProgram (dVar 0) "rows") (dOp ixD (dVar 1) (dC (.int 0)))) (dgName 2))
  (dSeq (dFor (diR3 (dC (.int 1)) (dCall1 lenD (dCons (dVar 1) dNil)) (dC (.int 2))) (dgName 3) (dAsg (dOp ixD (dOp ixD (dCall S_inner_rows (dCons (dVar 2) dNil)) (dOp ixD (dVar 1) (dVar 3))) (dOp ixD (dVar 1) (dOp addD (dVar 3) (dC (.int 1))))) (dgName 2)))
  (dRet (dVar 2))))
/-- a place: where it begins, then a branch and a row of it, and so on -/
def rowAt : List Row → Nat → List (Nat × Nat) → Option Row
  | rs, i, [] => rs[i]?
  | rs, i, (b, j) :: more => (rs[i]?).bind fun r => ((innerR r)[b]?).bind fun x => rowAt x j more
def encPl (i : Nat) (more : List (Nat × Nat)) : List D := .int (i : Nat) :: more.flatMap fun q => [D.int (q.1 : Nat), .int (q.2 : Nat)]
def S_Program_row (C : Addr) : DSp := fun ds O R => ∃ (tp : List Nat) (rs : List Row) (i : Nat) (more : List (Nat × Nat)) (r : Row), ds = [encPr C tp rs, .tup (encPl i more)] ∧ rowAt rs i more = some r ∧ more.length ≤ 3 ∧ R (encR r) O
theorem len_Program_row (C : Addr) (ds : List D) (O : Own) (R : D → Own → Prop) (h : S_Program_row C ds O R) : ds.length = 2 := by obtain ⟨_, _, _, _, _, rfl, _⟩ := h; rfl
theorem encPl_length (i : Nat) : ∀ more : List (Nat × Nat), (encPl i more).length = 1 + 2 * more.length := by
  intro more
  have : ∀ l : List (Nat × Nat), (l.flatMap fun q => [D.int (q.1 : Nat), .int (q.2 : Nat)]).length = 2 * l.length := by
    intro l
    induction l with
    | nil => rfl
    | cons q l ih => rw [List.flatMap_cons, List.length_append, ih, List.length_cons]; show 2 + 2 * l.length = 2 * (l.length + 1); omega
  show (more.flatMap _).length + 1 = _
  rw [this]
  omega
theorem flat_get : ∀ (l : List (Nat × Nat)) (k : Nat) (q : Nat × Nat), l[k]? = some q → (l.flatMap fun q => [D.int (q.1 : Nat), .int (q.2 : Nat)])[2 * k]? = some (.int (q.1 : Nat)) ∧ (l.flatMap fun q => [D.int (q.1 : Nat), .int (q.2 : Nat)])[2 * k + 1]? = some (.int (q.2 : Nat))
  | [], k, q, h => by cases h
  | p :: l, 0, q, h => by cases h; exact ⟨rfl, rfl⟩
  | p :: l, k + 1, q, h => by
    have ih := flat_get l k q h
    rw [List.flatMap_cons]
    have e1 : 2 * (k + 1) = 2 * k + 2 := by omega
    rw [e1]
    exact ih
theorem rgC {n : Nat} (h : n ≤ 3) : RgC 1 ((1 + 2 * n : Nat) : Int) 2 n := by
  have : n = 0 ∨ n = 1 ∨ n = 2 ∨ n = 3 := by omega
  rcases this with rfl | rfl | rfl | rfl
  · exact ⟨by decide, by decide, by decide, by decide⟩
  · exact ⟨by decide, by decide, by decide, by decide⟩
  · exact ⟨by decide, by decide, by decide, by decide⟩
  · exact ⟨by decide, by decide, by decide, by decide⟩
theorem forL_rngC {g : DTg} {b : DS} {chk : Own → Prop} {E : DEnds} (lo c : Int) (n : Nat) (I : Nat → DSt → Own → Prop) {δ : DSt} {O : Own} (h : I 0 δ O) (hc : ∀ j δ O, I j δ O → chk O)
    (step : ∀ j δ O nx, j < n → I j δ O → (∀ δ' O', I (j + 1) δ' O' → nx δ' O') → g (.int (lo + (j : Nat) * c)) δ O fun δ1 O1 => b { E with nx := nx, ct := nx, bk := E.nx } δ1 O1)
    (done : ∀ δ O, I n δ O → E.nx δ O) : forL g b chk E (rngC lo c n) δ O := by
  unfold rngC
  refine forL_rngI (fun i : Nat => D.int (lo + (i : Nat) * c)) (List.range n) I h hc (fun j a δ O nx hj ha => ?_) (fun δ O h => done δ O (by rw [List.length_range] at h; exact h))
  rw [List.length_range] at hj
  rw [List.getElem?_range hj] at ha
  cases ha
  exact step j δ O nx hj
theorem rowAt_snoc {rs : List Row} : ∀ (i : Nat) (more : List (Nat × Nat)) (b j : Nat) (r x' : Row) (x : List Row), rowAt rs i more = some r → (innerR r)[b]? = some x → x[j]? = some x' → rowAt rs i (more ++ [(b, j)]) = some x'
  | i, [], b, j, r, x', x, h, h1, h2 => by
    have h' : rs[i]? = some r := h
    show ((rs[i]?).bind fun r => ((innerR r)[b]?).bind fun x => rowAt x j []) = some x'
    rw [h']
    show ((innerR r)[b]?).bind (fun x => rowAt x j []) = some x'
    rw [h1]
    exact h2
  | i, (b0, j0) :: more, b, j, r, x', x, h, h1, h2 => by
    have h' : ((rs[i]?).bind fun r => ((innerR r)[b0]?).bind fun x => rowAt x j0 more) = some r := h
    show ((rs[i]?).bind fun r => ((innerR r)[b0]?).bind fun x => rowAt x j0 (more ++ [(b, j)])) = some x'
    cases e : rs[i]? with
    | none => rw [e] at h'; cases h'
    | some r0 =>
      rw [e] at h'
      have h' : ((innerR r0)[b0]?).bind (fun x => rowAt x j0 more) = some r := h'
      show ((innerR r0)[b0]?).bind (fun x => rowAt x j0 (more ++ [(b, j)])) = some x'
      cases e2 : (innerR r0)[b0]? with
      | none => rw [e2] at h'; cases h'
      | some x0 =>
        rw [e2] at h'
        exact rowAt_snoc j0 more b j r x' x h' h1 h2
theorem rowAt_step {rs : List Row} {i : Nat} : ∀ (more : List (Nat × Nat)) (r : Row), rowAt rs i more = some r → ∀ k q, more[k]? = some q → ∃ r1 x r2, rowAt rs i (more.take k) = some r1 ∧ (innerR r1)[q.1]? = some x ∧ x[q.2]? = some r2 ∧ rowAt rs i (more.take (k + 1)) = some r2 := by
  intro more
  induction more generalizing rs i with
  | nil => intro r h k q hq; cases hq
  | cons p more ih =>
    intro r h k q hq
    have h' : ((rs[i]?).bind fun r => ((innerR r)[p.1]?).bind fun x => rowAt x p.2 more) = some r := h
    cases e : rs[i]? with
    | none => rw [e] at h'; cases h'
    | some r0 =>
      rw [e] at h'
      have h' : ((innerR r0)[p.1]?).bind (fun x => rowAt x p.2 more) = some r := h'
      cases e2 : (innerR r0)[p.1]? with
      | none => rw [e2] at h'; cases h'
      | some x0 =>
        rw [e2] at h'
        have h' : rowAt x0 p.2 more = some r := h'
        have lift : ∀ m : List (Nat × Nat), rowAt rs i (p :: m) = rowAt x0 p.2 m := fun m => by
          show ((rs[i]?).bind fun r => ((innerR r)[p.1]?).bind fun x => rowAt x p.2 m) = _
          rw [e]
          show ((innerR r0)[p.1]?).bind (fun x => rowAt x p.2 m) = _
          rw [e2]
          rfl
        cases k with
        | zero =>
          have hq' : p = q := Option.some.inj hq
          subst hq'
          have : ∃ r2, x0[p.2]? = some r2 := by
            cases more with
            | nil => exact ⟨r, h'⟩
            | cons p2 more2 =>
              have h2 : ((x0[p.2]?).bind fun r => ((innerR r)[p2.1]?).bind fun x => rowAt x p2.2 more2) = some r := h'
              cases e3 : x0[p.2]? with
              | none => rw [e3] at h2; cases h2
              | some r2 => exact ⟨r2, rfl⟩
          obtain ⟨r2, hr2⟩ := this
          refine ⟨r0, x0, r2, e, e2, hr2, ?_⟩
          show rowAt rs i (p :: more.take 0) = _
          rw [lift]
          exact hr2
        | succ k =>
          obtain ⟨r1, x, r2, a1, a2, a3, a4⟩ := ih r h' k q hq
          refine ⟨r1, x, r2, ?_, a2, a3, ?_⟩
          · show rowAt rs i (p :: more.take k) = _
            rw [lift]; exact a1
          · show rowAt rs i (p :: more.take (k + 1)) = _
            rw [lift]; exact a4
theorem sem_Program_row (C : Addr) (ds : List D) (O : Own) (R : D → Own → Prop) (h : S_Program_row C ds O R) : R_Program_row C { nx := fun _ O' => Pure O R .non O', rt := Pure O R } (startD N_Program_row ds) O := by
  obtain ⟨tp, rs, i, more, r, rfl, hr, hm, h⟩ := h
  have first : ∃ r0, rs[i]? = some r0 := by
    cases more with
    | nil => exact ⟨r, hr⟩
    | cons p more =>
      have h2 : ((rs[i]?).bind fun r => ((innerR r)[p.1]?).bind fun x => rowAt x p.2 more) = some r := hr
      cases e3 : rs[i]? with
      | none => rw [e3] at h2; cases h2
      | some r2 => exact ⟨r2, rfl⟩
  obtain ⟨r0, h0⟩ := first
  walk_at "w"
  refine ⟨rfl, ?_⟩
  walk_at "w"
  rw [atD_nat (encRs_get h0)]
  walk_at "w"
  rw [encPl_length]
  refine ⟨more.length, rgC hm, ?_⟩
  refine forL_rngC 1 2 more.length (fun k δ O' => O' = O ∧ ∃ (r1 : Row) (c : Option D), rowAt rs i (more.take k) = some r1 ∧ δ = [some (encPr C tp rs), some (.tup (encPl i more)), some (encR r1), c]) ⟨rfl, r0, none, h0, rfl⟩ (fun _ _ _ _ => trivial) ?_ ?_
  · rintro k δ O' nx hk ⟨rfl, r1, c, a0, rfl⟩ hx
    obtain ⟨r1', x, r2, a1, a2, a3, a4⟩ := rowAt_step more r hr k more[k] (List.getElem?_eq_getElem hk)
    rw [a0] at a1
    cases a1
    have g := flat_get more k more[k] (List.getElem?_eq_getElem hk)
    have g1 : (encPl i more)[2 * k + 1]? = some (.int (more[k].1 : Nat)) := g.1
    have g2 : (encPl i more)[2 * k + 2]? = some (.int (more[k].2 : Nat)) := g.2
    refine ⟨r1, rfl, ?_⟩
    have z1 : (1 : Int) + (k : Nat) * 2 = ((2 * k + 1 : Nat) : Int) := by omega
    have z2 : (1 : Int) + (k : Nat) * 2 + 1 = ((2 * k + 2 : Nat) : Int) := by omega
    walk_at "w"
    rw [z1, atD_nat g1]
    walk_at "w"
    have a2' : ((innerR r1).map fun y => D.tup (encRs y))[more[k].1]? = some (.tup (encRs x)) := by rw [List.getElem?_map, a2]; rfl
    rw [atD_nat a2']
    walk_at "w"
    have z3 : ((2 * k + 1 : Nat) : Int) + 1 = ((2 * k + 2 : Nat) : Int) := rfl
    rw [z3, atD_nat g2]
    walk_at "w"
    rw [atD_nat (encRs_get a3)]
    exact hx _ _ ⟨rfl, r2, _, a4, rfl⟩
  · rintro δ O' ⟨rfl, r1, c, a0, rfl⟩
    rw [List.take_of_length_le (Nat.le_refl _), hr] at a0
    cases a0
    exact Pure.same (encR_hd r) h
end DL

/-! The places of the loops. -/
namespace DL
open PySem L2
local macro_rules | `(tactic| walk_at "w") => `(tactic| conv => whnf)
def encPc (l : List Nat) : D := .tup (l.map fun i => D.int ((i : Nat) : Int))
theorem encPc_hd {n : Nat} (l : List Nat) : Hd n (encPc l) := .tup (HdL.of fun d hd => by
  obtain ⟨p, _, rfl⟩ := List.mem_map.mp hd
  exact .int _)
def encPcs (l : List (List Nat)) : List D := l.map encPc
theorem encPcs_hd {n : Nat} (l : List (List Nat)) : HdL n (encPcs l) := HdL.of fun d hd => by
  obtain ⟨p, _, rfl⟩ := List.mem_map.mp hd
  exact encPc_hd p
mutual
def loopsR : List Nat → Row → List (List Nat)
  | _, .put _ _ => []
  | _, .say _ => []
  | pl, .ite _ a b => loopsRs (pl ++ [0]) 0 a ++ loopsRs (pl ++ [1]) 0 b
  | pl, .loop _ _ body => pl :: loopsRs (pl ++ [0]) 0 body
def loopsRs : List Nat → Nat → List Row → List (List Nat)
  | _, _, [] => []
  | ahead, k, r :: rs => loopsR (ahead ++ [k]) r ++ loopsRs ahead (k + 1) rs
end
def innL (pl : List Nat) : Nat → List (List Row) → List (List Nat)
  | _, [] => []
  | k, x :: l => loopsRs (pl ++ [k]) 0 x ++ innL pl (k + 1) l
def isLoop : Row → Bool
  | .loop _ _ _ => true
  | _ => false
theorem loopsR_eq (pl : List Nat) (r : Row) : loopsR pl r = (if isLoop r then [pl] else []) ++ innL pl 0 (innerR r) := by
  cases r with
  | put b s => rfl
  | say s => rfl
  | ite s a b => show loopsRs (pl ++ [0]) 0 a ++ loopsRs (pl ++ [1]) 0 b = [] ++ (loopsRs (pl ++ [0]) 0 a ++ (loopsRs (pl ++ [1]) 0 b ++ [])); simp
  | loop s ws b => show pl :: loopsRs (pl ++ [0]) 0 b = [pl] ++ (loopsRs (pl ++ [0]) 0 b ++ []); simp
mutual
theorem loopsR_len : ∀ (r : Row) (pl : List Nat), (loopsR pl r).length ≤ cntR r
  | .put _ _, _ => Nat.zero_le _
  | .say _, _ => Nat.zero_le _
  | .ite _ a b, pl => by
    have := loopsRs_len a (pl ++ [0]) 0
    have := loopsRs_len b (pl ++ [1]) 0
    show (loopsRs (pl ++ [0]) 0 a ++ loopsRs (pl ++ [1]) 0 b).length ≤ 1 + cnts a + cnts b
    rw [List.length_append]
    omega
  | .loop _ _ b, pl => by
    have := loopsRs_len b (pl ++ [0]) 0
    show (loopsRs (pl ++ [0]) 0 b).length + 1 ≤ 1 + cnts b
    omega
theorem loopsRs_len : ∀ (rs : List Row) (ahead : List Nat) (k : Nat), (loopsRs ahead k rs).length ≤ cnts rs
  | [], _, _ => Nat.zero_le _
  | r :: rs, ahead, k => by
    have := loopsR_len r (ahead ++ [k])
    have := loopsRs_len rs ahead (k + 1)
    show (loopsR (ahead ++ [k]) r ++ loopsRs ahead (k + 1) rs).length ≤ cntR r + cnts rs
    rw [List.length_append]
    omega
end
theorem loopsRs_append : ∀ (a b : List Row) (ahead : List Nat) (k : Nat), loopsRs ahead k (a ++ b) = loopsRs ahead k a ++ loopsRs ahead (k + a.length) b
  | [], b, ahead, k => rfl
  | r :: a, b, ahead, k => by
    show loopsR (ahead ++ [k]) r ++ loopsRs ahead (k + 1) (a ++ b) = loopsR (ahead ++ [k]) r ++ loopsRs ahead (k + 1) a ++ loopsRs ahead (k + (a.length + 1)) b
    rw [loopsRs_append a b, List.append_assoc, Nat.add_assoc k 1, Nat.add_comm 1]
theorem innL_append (pl : List Nat) : ∀ (a b : List (List Row)) (k : Nat), innL pl k (a ++ b) = innL pl k a ++ innL pl (k + a.length) b
  | [], b, k => rfl
  | r :: a, b, k => by
    show loopsRs (pl ++ [k]) 0 r ++ innL pl (k + 1) (a ++ b) = loopsRs (pl ++ [k]) 0 r ++ innL pl (k + 1) a ++ innL pl (k + (a.length + 1)) b
    rw [innL_append pl a b, List.append_assoc, Nat.add_assoc k 1, Nat.add_comm 1]
theorem innL_len (pl : List Nat) : ∀ (l : List (List Row)) (k : Nat), (innL pl k l).length ≤ sumC l
  | [], _ => Nat.zero_le _
  | x :: l, k => by
    have := loopsRs_len x (pl ++ [k]) 0
    have := innL_len pl l (k + 1)
    show (loopsRs (pl ++ [k]) 0 x ++ innL pl (k + 1) l).length ≤ cnts x + sumC l
    rw [List.length_append]
    omega
theorem cnts_take (rs : List Row) (k : Nat) : cnts (rs.take k) ≤ cnts rs := by
  have := cnts_append (rs.take k) (rs.drop k)
  rw [List.take_append_drop] at this
  omega
theorem cnts_get {rs : List Row} {k : Nat} {r : Row} (h : rs[k]? = some r) : cnts (rs.take k) + cntR r ≤ cnts rs := by
  obtain ⟨hk, e⟩ := List.getElem?_eq_some_iff.mp h
  have h1 := cnts_take rs (k + 1)
  rw [List.take_succ_eq_append_getElem hk, cnts_append, e] at h1
  have : cnts [r] = cntR r + 0 := rfl
  omega
def S_loops_in : Nat → DSp
  | 0 => fun _ _ _ => False
  | d + 1 => fun ds O R => ∃ (rs : List Row) (n : Nat) (ahead : List Nat), ds = [.tup (encRs rs), encPc ahead] ∧ okRs n rs d ∧ cnts rs ≤ 500 ∧ ahead.length + 2 * d ≤ 500 ∧ R (.lst (encPcs (loopsRs ahead 0 rs))) O
def N_loops_in : List Str := ["rows", "ahead", "found", "at", "place", "inner", "branch"]
def R_loops_in (n : Nat) : DS :=
  (dSeq (dAsg (dNew (dLst dNil)) (dgName 2))
  (dSeq (dFor (diR1 (dCall1 lenD (dCons (dVar 0) dNil))) (dgName 3) (dSeq (dAsg (dOp addD (dVar 1) (dTup (dCons (dVar 3) dNil))) (dgName 4))
  (dSeq (dIfS (dTest (dOp eqD (dOp ixD (dOp ixD (dVar 0) (dVar 3)) (dC (.int 0))) (dC (.str "loop")))) (dDrop (dApp (dVar 2) (dVar 4))) dNext)
  (dSeq (dAsg (dCall S_inner_rows (dCons (dOp ixD (dVar 0) (dVar 3)) dNil)) (dgName 5))
  (dFor (diR1 (dCall1 lenD (dCons (dVar 5) dNil))) (dgName 6) (dDrop (dExt (dVar 2) (dCall (S_loops_in n) (dCons (dOp ixD (dVar 5) (dVar 6)) (dCons (dOp addD (dVar 4) (dTup (dCons (dVar 6) dNil))) dNil))))))))))
  (dRet (dVar 2))))
def R_loops_in_b1 (n : Nat) : DS :=
  (dSeq (dAsg (dOp addD (dVar 1) (dTup (dCons (dVar 3) dNil))) (dgName 4))
  (dSeq (dIfS (dTest (dOp eqD (dOp ixD (dOp ixD (dVar 0) (dVar 3)) (dC (.int 0))) (dC (.str "loop")))) (dDrop (dApp (dVar 2) (dVar 4))) dNext)
  (dSeq (dAsg (dCall S_inner_rows (dCons (dOp ixD (dVar 0) (dVar 3)) dNil)) (dgName 5))
  (dFor (diR1 (dCall1 lenD (dCons (dVar 5) dNil))) (dgName 6) (dDrop (dExt (dVar 2) (dCall (S_loops_in n) (dCons (dOp ixD (dVar 5) (dVar 6)) (dCons (dOp addD (dVar 4) (dTup (dCons (dVar 6) dNil))) dNil)))))))))
def R_loops_in_b1_3 (n : Nat) : DS :=
  (dDrop (dExt (dVar 2) (dCall (S_loops_in n) (dCons (dOp ixD (dVar 5) (dVar 6)) (dCons (dOp addD (dVar 4) (dTup (dCons (dVar 6) dNil))) dNil)))))
def R_loops_in_b1_s2 (n : Nat) : DS :=
  (dSeq (dAsg (dCall S_inner_rows (dCons (dOp ixD (dVar 0) (dVar 3)) dNil)) (dgName 5))
  (dFor (diR1 (dCall1 lenD (dCons (dVar 5) dNil))) (dgName 6) (dDrop (dExt (dVar 2) (dCall (S_loops_in n) (dCons (dOp ixD (dVar 5) (dVar 6)) (dCons (dOp addD (dVar 4) (dTup (dCons (dVar 6) dNil))) dNil)))))))
theorem len_loops_in (n : Nat) (ds : List D) (O : Own) (R : D → Own → Prop) (h : S_loops_in (n + 1) ds O R) : ds.length = 2 := by obtain ⟨_, _, _, rfl, _⟩ := h; rfl
def tagR : Row → Str
  | .put _ _ => "put"
  | .say _ => "say"
  | .ite _ _ _ => "if"
  | .loop _ _ _ => "loop"
theorem tag_ok : ∀ r : Row, PyData.strOk (tagR r) = true
  | .put _ _ => ok_put
  | .say _ => ok_say
  | .ite _ _ _ => ok_if
  | .loop _ _ _ => ok_loop
theorem tag_loop : ∀ r : Row, decide (tagR r = "loop") = isLoop r
  | .put _ _ => (by decide +kernel : decide (("put" : Str) = "loop") = false)
  | .say _ => (by decide +kernel : decide (("say" : Str) = "loop") = false)
  | .ite _ _ _ => (by decide +kernel : decide (("if" : Str) = "loop") = false)
  | .loop _ _ _ => (by decide +kernel : decide (("loop" : Str) = "loop") = true)
theorem encR_tup (r : Row) : ∃ tl, encR r = .tup (.str (tagR r) :: tl) := by cases r <;> exact ⟨_, rfl⟩
theorem strQ {s t : Str} {G : Bool → Prop} {b : Bool} (h : PyData.strOk s = true) (h2 : PyData.strOk t = true) (e : decide (s = t) = b) (g : G b) : (PyData.strOk s = true ∧ PyData.strOk t = true) ∧ ∀ k : Bool, k = decide (s = t) → G k := ⟨⟨h, h2⟩, fun k z => by rw [z, e]; exact g⟩
theorem loops_round {n nn j : Nat} {rs : List Row} {ahead : List Nat} {O : Own} {r : Row} {L : List (List Nat)} {nx bk ct : DSt → Own → Prop} {R : D → Own → Prop} {a5 a6 : Option D} (hr : rs[j]? = some r) (hok : okR nn r n) (hL : L.length + cntR r ≤ 1000) (hcR : cntR r ≤ 500) (hah : ahead.length + 2 * n ≤ 500)
    (hx : ∀ a5 a6, nx [some (.tup (encRs rs)), some (encPc ahead), some (.own O.length), some (.int (j : Nat)), some (encPc (ahead ++ [j])), a5, a6] (O ++ [some (.lst (encPcs (L ++ innL (ahead ++ [j]) 0 (innerR r))))])) :
    R_loops_in_b1_s2 n { nx := nx, rt := R, bk := bk, ct := ct } [some (.tup (encRs rs)), some (encPc ahead), some (.own O.length), some (.int (j : Nat)), some (encPc (ahead ++ [j])), a5, a6] (O ++ [some (.lst (encPcs L))]) := by
  walk_at "w"
  rw [atD_nat (encRs_get hr)]
  refine ⟨r, rfl, ?_⟩
  walk_at "w"
  rw [List.length_map]
  have h2 : (innerR r).length ≤ 2 := by cases r <;> simp [innerR]
  refine ⟨by omega, ?_⟩
  rw [Int.toNat_natCast]
  have hin := innerR_ok hok
  have hcn := innerR_cnt r
  refine forL_rng (innerR r).length (fun k δ O' => O' = O ++ [some (.lst (encPcs (L ++ innL (ahead ++ [j]) 0 ((innerR r).take k))))] ∧ ∃ a6, δ = [some (.tup (encRs rs)), some (encPc ahead), some (.own O.length), some (.int (j : Nat)), some (encPc (ahead ++ [j])), some (.lst ((innerR r).map fun x => .tup (encRs x))), a6])
    ⟨by rw [List.take_zero]; show _ = O ++ [some (.lst (encPcs (L ++ [])))]; rw [List.append_nil], _, rfl⟩ (fun _ _ _ _ => trivial) ?_ ?_
  · rintro k δ O' nx2 hk ⟨rfl, a6, rfl⟩ hx2
    have gk : (innerR r)[k]? = some (innerR r)[k] := List.getElem?_eq_getElem hk
    generalize ex : (innerR r)[k] = x at gk
    obtain ⟨d1, d2⟩ := hin x (List.mem_of_getElem? gk)
    obtain ⟨m, rfl⟩ : ∃ m, n = m + 1 := ⟨n - 1, by omega⟩
    walk_at "w"
    rw [asL_top]
    walk_at "w"
    have gk' : ((innerR r).map fun x => D.tup (encRs x))[k]? = some (.tup (encRs x)) := by rw [List.getElem?_map, gk]; rfl
    rw [atD_nat gk']
    walk_at "w"
    refine ⟨by simp; omega, ?_⟩
    have e1 : (ahead ++ [j]).map (fun i : Nat => D.int (i : Int)) ++ [.int (k : Nat)] = (ahead ++ [j] ++ [k]).map (fun i : Nat => D.int (i : Int)) := by rw [List.map_append (l₁ := ahead ++ [j])]; rfl
    have cx : cnts x ≤ cntR r := by
      have : ∀ l : List (List Row), x ∈ l → cnts x ≤ sumC l := by
        intro l
        induction l with
        | nil => intro z; cases z
        | cons y l ih =>
          intro z
          show cnts x ≤ cnts y + sumC l
          rcases List.mem_cons.mp z with z | z
          · rw [z]; omega
          · have := ih z; omega
      have := this _ (List.mem_of_getElem? gk)
      omega
    refine ⟨x, nn, ahead ++ [j] ++ [k], by rw [e1]; rfl, d2, by omega, by simp; omega, ?_⟩
    walk_at "w"
    rw [top_get]
    walk_at "w"
    have l1 : (innL (ahead ++ [j]) 0 ((innerR r).take k)).length + (loopsRs (ahead ++ [j] ++ [k]) 0 x).length ≤ cntR r := by
      have a1 := innL_len (ahead ++ [j]) ((innerR r).take (k + 1)) 0
      have a2 : (innerR r).take (k + 1) = (innerR r).take k ++ [x] := by rw [List.take_succ_eq_append_getElem hk, ex]
      rw [a2, innL_append, List.length_append] at a1
      have a3 : (innL (ahead ++ [j]) (0 + ((innerR r).take k).length) [x]).length = (loopsRs (ahead ++ [j] ++ [k]) 0 x).length := by
        show (loopsRs (ahead ++ [j] ++ [0 + ((innerR r).take k).length]) 0 x ++ []).length = _
        rw [List.append_nil, List.length_take, Nat.min_eq_left (by omega), Nat.zero_add]
      have a4 : ∀ (l m : List (List Row)), sumC (l ++ m) = sumC l + sumC m := by
        intro l m
        induction l with
        | nil => show sumC m = 0 + sumC m; omega
        | cons y l ih => show cnts y + sumC (l ++ m) = cnts y + sumC l + sumC m; omega
      have a5 := a4 ((innerR r).take (k + 1)) ((innerR r).drop (k + 1))
      rw [List.take_append_drop] at a5
      rw [← a2] at a1
      omega
    refine ⟨by unfold encPcs; rw [List.length_map, List.length_map, List.length_append]; omega, ?_⟩
    rw [top_set]
    refine hx2 _ _ ⟨?_, some (.int (k : Nat)), rfl⟩
    have a2 : (innerR r).take (k + 1) = (innerR r).take k ++ [x] := by rw [List.take_succ_eq_append_getElem hk, ex]
    have a3 : innL (ahead ++ [j]) (0 + ((innerR r).take k).length) [x] = loopsRs (ahead ++ [j] ++ [k]) 0 x := by
      show loopsRs (ahead ++ [j] ++ [0 + ((innerR r).take k).length]) 0 x ++ [] = _
      rw [List.append_nil, List.length_take, Nat.min_eq_left (by omega), Nat.zero_add]
    rw [a2, innL_append, a3, ← List.append_assoc]
    unfold encPcs
    rw [List.map_append (l₁ := L ++ _)]
  · rintro δ O' ⟨rfl, a6, rfl⟩
    rw [List.take_of_length_le (Nat.le_refl _)]
    exact hx _ _
theorem okR_le {n : Nat} : ∀ {rs : List Row} {k : Nat} {r : Row}, rs[k]? = some r → ∀ {d}, okRs n rs d → okR n r d := fun h _ ok => okRs_mem ok _ (List.mem_of_getElem? h)
theorem sem_loops_in (n : Nat) (ds : List D) (O : Own) (R : D → Own → Prop) (h : S_loops_in (n + 1) ds O R) : R_loops_in n { nx := fun _ O' => Pure O R .non O', rt := Pure O R } (startD N_loops_in ds) O := by
  obtain ⟨rs, nn, ahead, rfl, ok, hc, hah, h⟩ := h
  walk_at "w"
  rw [encRs_length]
  have hl := len_le_cnts rs
  refine ⟨by omega, ?_⟩
  rw [Int.toNat_natCast]
  refine forL_rng rs.length (fun j δ O' => O' = O ++ [some (.lst (encPcs (loopsRs ahead 0 (rs.take j))))] ∧ ∃ a3 a4 a5 a6, δ = [some (.tup (encRs rs)), some (encPc ahead), some (.own O.length), a3, a4, a5, a6]) ⟨rfl, _, _, _, _, rfl⟩ (fun _ _ _ _ => trivial) ?_ ?_
  · rintro j δ O' nx hj ⟨rfl, a3, a4, a5, a6, rfl⟩ hx
    have gj : rs[j]? = some rs[j] := List.getElem?_eq_getElem hj
    generalize er : rs[j] = r at gj
    have okr := okR_le gj ok
    have cg := cnts_get gj
    have lt := loopsRs_len (rs.take j) ahead 0
    have e1 : ahead.map (fun i : Nat => D.int (i : Int)) ++ [.int (j : Nat)] = (ahead ++ [j]).map (fun i : Nat => D.int (i : Int)) := by rw [List.map_append]; rfl
    have tk : rs.take (j + 1) = rs.take j ++ [r] := by rw [List.take_succ_eq_append_getElem hj, er]
    have fin : loopsRs ahead 0 (rs.take (j + 1)) = loopsRs ahead 0 (rs.take j) ++ loopsR (ahead ++ [j]) r := by
      rw [tk, loopsRs_append]
      show _ ++ (loopsR (ahead ++ [0 + (rs.take j).length]) r ++ []) = _
      rw [List.append_nil, List.length_take, Nat.min_eq_left (by omega), Nat.zero_add]
    obtain ⟨tl, et⟩ := encR_tup r
    walk_at "w"
    refine ⟨by simp; omega, ?_⟩
    rw [e1]
    walk_at "w"
    rw [atD_nat (encRs_get gj)]
    walk_at "w"
    rw [et]
    walk_at "w"
    refine strQ (tag_ok r) ok_loop (tag_loop r) ?_
    refine ifB (fun e => ?_) (fun e => ?_)
    · walk_at "w"
      rw [asL_top]
      walk_at "w"
      rw [top_get]
      walk_at "w"
      refine ⟨by unfold encPcs; rw [List.length_map]; omega, ?_⟩
      rw [top_set]
      have e2 : encPcs (loopsRs ahead 0 (rs.take j)) ++ [D.tup ((ahead ++ [j]).map fun i : Nat => D.int (i : Int))] = encPcs (loopsRs ahead 0 (rs.take j) ++ [ahead ++ [j]]) := by unfold encPcs; rw [List.map_append (l₁ := loopsRs ahead 0 (rs.take j))]; rfl
      rw [e2]
      refine loops_round gj okr (by rw [List.length_append]; show _ + 1 + _ ≤ _; omega) (by omega) hah fun b5 b6 => ?_
      refine hx _ _ ⟨?_, _, _, _, _, rfl⟩
      rw [fin, loopsR_eq, e, List.append_assoc]
      rfl
    · refine loops_round gj okr (by omega) (by omega) hah fun b5 b6 => ?_
      refine hx _ _ ⟨?_, _, _, _, _, rfl⟩
      rw [fin, loopsR_eq, e]
      rfl
  · rintro δ O' ⟨rfl, a3, a4, a5, a6, rfl⟩
    rw [List.take_of_length_le (Nat.le_refl _)]
    exact ⟨.lst (encPcs (loopsRs ahead 0 rs)), top_take, .own (Nat.le_refl _) top_get (ResL.same (encPcs_hd _)), h⟩
end DL

/-! Places: behind, into, first_place. -/
namespace DL
open PySem L2
local macro_rules | `(tactic| walk_at "w") => `(tactic| conv => whnf)
/-- a place, its last part outermost -/
inductive Pl where
  | top (i : Nat) | sub (p : Pl) (b j : Nat)
def Pl.list : Pl → List Nat
  | .top i => [i]
  | .sub p b j => p.list ++ [b, j]
def Pl.dep : Pl → Nat
  | .top _ => 0
  | .sub p _ _ => p.dep + 1
def Pl.fst : Pl → Nat
  | .top i => i
  | .sub p _ _ => p.fst
def Pl.more : Pl → List (Nat × Nat)
  | .top _ => []
  | .sub p b j => p.more ++ [(b, j)]
def rowP (rs : List Row) : Pl → Option Row
  | .top i => rs[i]?
  | .sub p b j => (rowP rs p).bind fun r => ((innerR r)[b]?).bind fun x => x[j]?
def listP (rs : List Row) : Pl → Option (List Row)
  | .top _ => some rs
  | .sub p b _ => (rowP rs p).bind fun r => (innerR r)[b]?
theorem encPl_eq : ∀ p : Pl, encPl p.fst p.more = p.list.map fun i => D.int ((i : Nat) : Int)
  | .top i => rfl
  | .sub p b j => by
    have ih := encPl_eq p
    show encPl p.fst (p.more ++ [(b, j)]) = (p.list ++ [b, j]).map fun i => D.int ((i : Nat) : Int)
    rw [List.map_append, ← ih]
    unfold encPl
    rw [List.flatMap_append]
    rfl
theorem rowAt_app {rs : List Row} : ∀ (i : Nat) (more : List (Nat × Nat)) (b j : Nat), rowAt rs i (more ++ [(b, j)]) = (rowAt rs i more).bind fun r => ((innerR r)[b]?).bind fun x => x[j]?
  | i, [], b, j => rfl
  | i, (b0, j0) :: more, b, j => by
    show ((rs[i]?).bind fun r => ((innerR r)[b0]?).bind fun x => rowAt x j0 (more ++ [(b, j)])) = ((rs[i]?).bind fun r => ((innerR r)[b0]?).bind fun x => rowAt x j0 more).bind fun r => ((innerR r)[b]?).bind fun x => x[j]?
    cases rs[i]? with
    | none => rfl
    | some r =>
      show (((innerR r)[b0]?).bind fun x => rowAt x j0 (more ++ [(b, j)])) = (((innerR r)[b0]?).bind fun x => rowAt x j0 more).bind fun r => ((innerR r)[b]?).bind fun x => x[j]?
      cases (innerR r)[b0]? with
      | none => rfl
      | some x => exact rowAt_app j0 more b j
theorem rowP_at (rs : List Row) : ∀ p : Pl, rowAt rs p.fst p.more = rowP rs p
  | .top i => rfl
  | .sub p b j => by
    show rowAt rs p.fst (p.more ++ [(b, j)]) = _
    rw [rowAt_app, rowP_at rs p]
    rfl
theorem more_len : ∀ p : Pl, p.more.length = p.dep
  | .top _ => rfl
  | .sub p b j => by show (p.more ++ [(b, j)]).length = p.dep + 1; rw [List.length_append, more_len p]; rfl
theorem list_len : ∀ p : Pl, p.list.length = 1 + 2 * p.dep
  | .top _ => rfl
  | .sub p b j => by show (p.list ++ [b, j]).length = 1 + 2 * (p.dep + 1); rw [List.length_append, list_len p]; show 1 + 2 * p.dep + 2 = _; omega
theorem rowP_ok {n d : Nat} {rs : List Row} (ok : okRs n rs d) : ∀ (p : Pl) (r : Row), rowP rs p = some r → p.dep ≤ d ∧ okR n r (d - p.dep)
  | .top i, r, h => ⟨Nat.zero_le _, okR_le h ok⟩
  | .sub p b j, r, h => by
    have h' : ((rowP rs p).bind fun r => ((innerR r)[b]?).bind fun x => x[j]?) = some r := h
    cases e : rowP rs p with
    | none => rw [e] at h'; cases h'
    | some r0 =>
      rw [e] at h'
      have h' : ((innerR r0)[b]?).bind (fun x => x[j]?) = some r := h'
      cases e2 : (innerR r0)[b]? with
      | none => rw [e2] at h'; cases h'
      | some x =>
        rw [e2] at h'
        obtain ⟨a1, a2⟩ := rowP_ok ok p r0 e
        obtain ⟨b1, b2⟩ := innerR_ok a2 x (List.mem_of_getElem? e2)
        refine ⟨by show p.dep + 1 ≤ d; omega, ?_⟩
        have := okR_le (h' : x[j]? = some r) b2
        rw [Nat.sub_sub] at this
        exact this
/-- what the call of row asks -/
theorem row_call {C : Addr} {tp : List Nat} {rs : List Row} {p : Pl} {r : Row} {O : Own} {R : D → Own → Prop} (ok : PrOk tp rs) (h : rowP rs p = some r) (q : R (encR r) O) : S_Program_row C [encPr C tp rs, encPc p.list] O R :=
  ⟨tp, rs, p.fst, p.more, r, by rw [encPl_eq]; rfl, by rw [rowP_at]; exact h, by rw [more_len]; exact (rowP_ok ok.row p r h).1, q⟩
def behindP (rs : List Row) : Pl → Option Pl
  | .top i => if i + 1 < rs.length then some (.top (i + 1)) else none
  | .sub p b j => match rowP rs p with
    | some r => if j + 1 < (((innerR r)[b]?).getD []).length then some (.sub p b (j + 1)) else if isLoop r then some p else behindP rs p
    | none => none
def encO : Option Pl → D
  | none => .non
  | some p => encPc p.list
theorem encO_hd {n : Nat} (o : Option Pl) : Hd n (encO o) := by cases o with | none => exact .non | some p => exact encPc_hd _
def S_behind (C : Addr) : Nat → DSp
  | 0 => fun _ _ _ => False
  | n + 1 => fun ds O R => ∃ (tp : List Nat) (rs : List Row) (p : Pl) (r : Row), ds = [encPr C tp rs, encPc p.list] ∧ PrOk tp rs ∧ rowP rs p = some r ∧ p.dep ≤ n ∧ R (encO (behindP rs p)) O
def N_behind : List Str := ["program", "place", "rows", "above"]
def R_behind (cProgram : Addr) (n : Nat) : DS :=
  (dSeq (dAsg (dFld cProgram (dVar 0) "rows") (dgName 2))
  (dSeq (dAsg (dSl (dVar 1) dNoPart (dPart (negD (dC (.int 2))))) (dgName 3))
  (dSeq (dIfS (dTest (dOp gtD (dCall1 lenD (dCons (dVar 1) dNil)) (dC (.int 1)))) (dAsg (dOp ixD (dCall S_inner_rows (dCons (dMeth cProgram "row" (S_Program_row cProgram) (dVar 0) (dCons (dVar 3) dNil)) dNil)) (dOp ixD (dVar 1) (negD (dC (.int 2))))) (dgName 2)) dNext)
  (dSeq (dIfS (dTest (dOp ltD (dOp addD (dOp ixD (dVar 1) (negD (dC (.int 1)))) (dC (.int 1))) (dCall1 lenD (dCons (dVar 2) dNil)))) (dRet (dOp addD (dSl (dVar 1) dNoPart (dPart (negD (dC (.int 1))))) (dTup (dCons (dOp addD (dOp ixD (dVar 1) (negD (dC (.int 1)))) (dC (.int 1))) dNil)))) dNext)
  (dSeq (dIfS (dTest (dOp eqD (dCall1 lenD (dCons (dVar 1) dNil)) (dC (.int 1)))) (dRet (dC .non)) dNext)
  (dSeq (dIfS (dTest (dOp eqD (dOp ixD (dMeth cProgram "row" (S_Program_row cProgram) (dVar 0) (dCons (dVar 3) dNil)) (dC (.int 0))) (dC (.str "loop")))) (dRet (dVar 3)) dNext)
  (dRet (dCall (S_behind cProgram n) (dCons (dVar 0) (dCons (dVar 3) dNil))))))))))
def R_behind_3 (cProgram : Addr) (n : Nat) : DS :=
  (dSeq (dIfS (dTest (dOp ltD (dOp addD (dOp ixD (dVar 1) (negD (dC (.int 1)))) (dC (.int 1))) (dCall1 lenD (dCons (dVar 2) dNil)))) (dRet (dOp addD (dSl (dVar 1) dNoPart (dPart (negD (dC (.int 1))))) (dTup (dCons (dOp addD (dOp ixD (dVar 1) (negD (dC (.int 1)))) (dC (.int 1))) dNil)))) dNext)
  (dSeq (dIfS (dTest (dOp eqD (dCall1 lenD (dCons (dVar 1) dNil)) (dC (.int 1)))) (dRet (dC .non)) dNext)
  (dSeq (dIfS (dTest (dOp eqD (dOp ixD (dMeth cProgram "row" (S_Program_row cProgram) (dVar 0) (dCons (dVar 3) dNil)) (dC (.int 0))) (dC (.str "loop")))) (dRet (dVar 3)) dNext)
  (dRet (dCall (S_behind cProgram n) (dCons (dVar 0) (dCons (dVar 3) dNil)))))))
def R_behind_4 (cProgram : Addr) (n : Nat) : DS :=
  (dSeq (dIfS (dTest (dOp eqD (dCall1 lenD (dCons (dVar 1) dNil)) (dC (.int 1)))) (dRet (dC .non)) dNext)
  (dSeq (dIfS (dTest (dOp eqD (dOp ixD (dMeth cProgram "row" (S_Program_row cProgram) (dVar 0) (dCons (dVar 3) dNil)) (dC (.int 0))) (dC (.str "loop")))) (dRet (dVar 3)) dNext)
  (dRet (dCall (S_behind cProgram n) (dCons (dVar 0) (dCons (dVar 3) dNil))))))
theorem len_behind (C : Addr) (n : Nat) (ds : List D) (O : Own) (R : D → Own → Prop) (h : S_behind C (n + 1) ds O R) : ds.length = 2 := by obtain ⟨_, _, _, _, rfl, _⟩ := h; rfl
/-! negative places in a list -/
theorem at_neg {ds : List D} {k j : Nat} {d : D} (h : ds[j]? = some d) (e : j + k = ds.length) (hk : 0 < k) : atD ds (-(k : Int)) = some d := by
  have hj : j < ds.length := (List.getElem?_eq_some_iff.mp h).1
  unfold atD
  rw [if_neg (by omega)]
  unfold atI ixN
  rw [if_neg (by omega), if_pos (by omega)]
  have : ((-(k : Int)) + (ds.length : Int)).toNat = j := by omega
  show ds[_]? = _
  first
  | rw [this]; exact h
  | rw [show ((ds.length : Int) + -(k : Int)).toNat = j from by omega]; exact h
theorem cut_neg {ds : List D} {k j : Nat} (e : j + k = ds.length) (hk : 0 < k) : cutD ds none (some (-(k : Int))) = ds.take j := by
  unfold cutD
  rw [HT.sIx_none]
  show (ds.drop 0).take (HT.sIx ds.length ds.length (some (-(k : Int))) - 0) = _
  have : HT.sIx ds.length ds.length (some (-(k : Int))) = j := by
    show (if (-(k : Int)) < 0 then ((-(k : Int)) + (ds.length : Int)).toNat else _) = j
    rw [if_pos (by omega)]
    omega
  rw [this]
  rfl
theorem sem_behind (C : Addr) (n : Nat) (ds : List D) (O : Own) (R : D → Own → Prop) (h : S_behind C (n + 1) ds O R) : R_behind C n { nx := fun _ O' => Pure O R .non O', rt := Pure O R } (startD N_behind ds) O := by
  obtain ⟨tp, rs, p, r, rfl, ok, hr, hd, h⟩ := h
  cases p with
  | top i =>
    have hb : behindP rs (.top i) = if i + 1 < rs.length then some (.top (i + 1)) else none := rfl
    walk_at "w"
    refine ⟨rfl, ?_⟩
    walk_at "w"
    rw [encRs_length]
    refine ifD (fun e => ?_) (fun e => ?_)
    · walk_at "w"
      refine ⟨(by decide : 0 + 1 ≤ 1000000), ?_⟩
      rw [hb, if_pos (by omega)] at h
      exact Pure.same (encPc_hd [i + 1]) h
    · walk_at "w"
      rw [hb, if_neg (by omega)] at h
      exact Pure.same .non h
  | sub p b j =>
    have hr' : ((rowP rs p).bind fun r => ((innerR r)[b]?).bind fun x => x[j]?) = some r := hr
    cases e : rowP rs p with
    | none => rw [e] at hr'; cases hr'
    | some r0 =>
      rw [e] at hr'
      have hr' : ((innerR r0)[b]?).bind (fun x => x[j]?) = some r := hr'
      cases e2 : (innerR r0)[b]? with
      | none => rw [e2] at hr'; cases hr'
      | some x =>
        have hb : behindP rs (Pl.sub p b j) = (if j + 1 < x.length then some (Pl.sub p b (j + 1)) else if isLoop r0 then some p else behindP rs p : Option Pl) := by
          show (match rowP rs p with | some r => (if j + 1 < (((innerR r)[b]?).getD []).length then some (Pl.sub p b (j + 1)) else if isLoop r then some p else behindP rs p : Option Pl) | none => none) = _
          rw [e]
          show (if j + 1 < (((innerR r0)[b]?).getD []).length then some (Pl.sub p b (j + 1)) else if isLoop r0 then some p else behindP rs p : Option Pl) = _
          rw [e2]
          rfl
        have f0 : (Pl.sub p b j).list.map (fun i : Nat => D.int (i : Int)) = p.list.map (fun i : Nat => D.int (i : Int)) ++ [.int (b : Nat), .int (j : Nat)] := by show (p.list ++ [b, j]).map _ = _; rw [List.map_append]; rfl
        have f1 : ((Pl.sub p b j).list.map (fun i : Nat => D.int (i : Int))).length = p.list.length + 2 := by rw [f0]; simp
        have lp : p.list.length = 1 + 2 * p.dep := list_len p
        have f2 : cutD ((Pl.sub p b j).list.map (fun i : Nat => D.int (i : Int))) none (some (-2)) = p.list.map (fun i : Nat => D.int (i : Int)) := by
          have := cut_neg (ds := (Pl.sub p b j).list.map (fun i : Nat => D.int (i : Int))) (k := 2) (j := p.list.length) (by rw [f1]) (by decide)
          rw [f0] at this ⊢
          rw [show ((-2 : Int)) = -((2 : Nat) : Int) from rfl, this, List.take_left' (by simp)]
        have f3 : atD ((Pl.sub p b j).list.map (fun i : Nat => D.int (i : Int))) (-2) = some (.int (b : Nat)) :=
          at_neg (k := 2) (j := p.list.length) (by rw [f0, List.getElem?_append_right (by simp)]; simp) (by rw [f1]) (by decide)
        have f4 : atD ((Pl.sub p b j).list.map (fun i : Nat => D.int (i : Int))) (-1) = some (.int (j : Nat)) :=
          at_neg (k := 1) (j := p.list.length + 1) (by rw [f0, List.getElem?_append_right (by simp)]; simp) (by rw [f1]) (by decide)
        have f5 : cutD ((Pl.sub p b j).list.map (fun i : Nat => D.int (i : Int))) none (some (-1)) = p.list.map (fun i : Nat => D.int (i : Int)) ++ [.int (b : Nat)] := by
          have := cut_neg (ds := (Pl.sub p b j).list.map (fun i : Nat => D.int (i : Int))) (k := 1) (j := p.list.length + 1) (by rw [f1]) (by decide)
          rw [f0] at this ⊢
          rw [show ((-1 : Int)) = -((1 : Nat) : Int) from rfl, this, List.take_append, List.take_of_length_le (by simp)]
          simp
        obtain ⟨tl, et⟩ := encR_tup r0
        walk_at "w"
        refine ⟨rfl, ?_⟩
        walk_at "w"
        rw [f1]
        refine ifD (fun _ => ?_) (fun q => (q (by omega)).elim)
        walk_at "w"
        refine ⟨rfl, rfl, ?_⟩
        rw [f2]
        refine ⟨tp, rs, p.fst, p.more, r0, by rw [encPl_eq], by rw [rowP_at]; exact e, by rw [more_len]; exact (rowP_ok ok.row p r0 e).1, ?_⟩
        refine ⟨r0, rfl, ?_⟩
        walk_at "w"
        rw [f3]
        walk_at "w"
        have gb : ((innerR r0).map fun x => D.tup (encRs x))[b]? = some (.tup (encRs x)) := by rw [List.getElem?_map, e2]; rfl
        rw [atD_nat gb]
        walk_at "w"
        rw [f4]
        walk_at "w"
        rw [encRs_length]
        refine ifD (fun e3 => ?_) (fun e3 => ?_)
        · walk_at "w"
          rw [f5]
          rw [f4]
          walk_at "w"
          refine ⟨by rw [List.length_append, List.length_map]; show _ + 1 + 1 ≤ _; have := rowP_ok ok.row p r0 e; omega, ?_⟩
          rw [hb, if_pos (by omega)] at h
          have e4 : p.list.map (fun i : Nat => D.int (i : Int)) ++ [.int (b : Nat)] ++ [.int ((j : Int) + 1)] = (Pl.sub p b (j + 1)).list.map (fun i : Nat => D.int (i : Int)) := by
            show _ = (p.list ++ [b, j + 1]).map _
            rw [List.map_append, List.append_assoc]
            rfl
          rw [e4]
          exact Pure.same (encPc_hd (Pl.sub p b (j + 1)).list) h
        · rw [hb, if_neg (by omega)] at h
          walk_at "w"
          rw [f1]
          walk_at "w"
          refine ⟨rfl, rfl, ?_⟩
          refine ⟨tp, rs, p.fst, p.more, r0, by rw [encPl_eq], by rw [rowP_at]; exact e, by rw [more_len]; exact (rowP_ok ok.row p r0 e).1, ?_⟩
          walk_at "w"
          rw [et]
          walk_at "w"
          refine strQ (tag_ok r0) ok_loop (tag_loop r0) ?_
          refine ifB (fun q => ?_) (fun q => ?_)
          · rw [if_pos q] at h
            exact Pure.same (encPc_hd p.list) h
          · rw [if_neg (by rw [q]; exact Bool.false_ne_true)] at h
            have hd' : p.dep + 1 ≤ n := hd
            obtain ⟨m, rfl⟩ : ∃ m, n = m + 1 := ⟨n - 1, by omega⟩
            exact ⟨tp, rs, p, r0, rfl, ok, e, by omega, Pure.same (encO_hd _) h⟩
end DL

/-! first_place, into, alone, asked. -/
namespace DL
open PySem L2
local macro_rules | `(tactic| walk_at "w") => `(tactic| conv => whnf)
def firstP (rs : List Row) : Option Pl := if rs.isEmpty then none else some (.top 0)
def N_first_place : List Str := ["program"]
def R_first_place (cProgram : Addr) : DS :=
  (dSeq (dIfS (dTest (dOp eqD (dFld cProgram (dVar 0) "rows") (dTup dNil))) (dRet (dC .non)) dNext)
  (dRet (dTup (dCons (dC (.int 0)) dNil))))
def S_first_place (C : Addr) : DSp := fun ds O R => ∃ (tp : List Nat) (rs : List Row), ds = [encPr C tp rs] ∧ PrOk tp rs ∧ R (encO (firstP rs)) O
theorem len_first_place (C : Addr) (ds : List D) (O : Own) (R : D → Own → Prop) (h : S_first_place C ds O R) : ds.length = 1 := by obtain ⟨_, _, rfl, _⟩ := h; rfl
def pS (s : Sm) : PyData := .tuple [.tuple (s.1.map PyData.int), .int s.2]
theorem py_S (s : Sm) : Py 3 (encS s) (pS s) := .tup (.cons ((Py.tup (PyAll.ints s.1)).mono (by decide)) (.cons ((Py.int _).mono (by decide)) (.nil _)))
/-! rows as data for == -/
mutual
def pR : Row → PyData
  | .put b s => .tuple [.str "put", .int (b : Nat), pS s]
  | .say s => .tuple [.str "say", pS s]
  | .ite s a b => .tuple [.str "if", pS s, .tuple (pRs a), .tuple (pRs b)]
  | .loop s ws body => .tuple [.str "loop", pS s, .tuple (ws.map pS), .tuple (pRs body)]
def pRs : List Row → List PyData
  | [] => []
  | r :: rs => pR r :: pRs rs
end
mutual
theorem py_R {n : Nat} : ∀ (r : Row) (d : Nat), okR n r d → Py (2 * d + 5) (encR r) (pR r)
  | .put b s, d, _ => (Py.tup (n := 3) (.cons ((Py.str ok_put).mono (by decide)) (.cons ((Py.int _).mono (by decide)) (.cons (py_S s) (.nil _))))).mono (by omega)
  | .say s, d, _ => (Py.tup (n := 3) (.cons ((Py.str ok_say).mono (by decide)) (.cons (py_S s) (.nil _)))).mono (by omega)
  | .ite s a b, d, h => by
    have h1 := py_Rs a (d - 1) h.2.2.1
    have h2 := py_Rs b (d - 1) h.2.2.2
    have := h.1
    have e : 2 * (d - 1) + 5 + 1 + 1 = 2 * d + 5 := by omega
    rw [← e]
    exact .tup (.cons ((Py.str ok_if).mono (by omega)) (.cons ((py_S s).mono (by omega)) (.cons (.tup h1) (.cons (.tup h2) (.nil _)))))
  | .loop s ws b, d, h => by
    have h2 := py_Rs b (d - 1) h.2.2.2.2
    have := h.1
    have e : 2 * (d - 1) + 5 + 1 + 1 = 2 * d + 5 := by omega
    rw [← e]
    exact .tup (.cons ((Py.str ok_loop).mono (by omega)) (.cons ((py_S s).mono (by omega)) (.cons ((Py.tup (n := 3) (PyAll.map encS pS ws fun s _ => py_S s)).mono (by omega)) (.cons (.tup h2) (.nil _)))))
theorem py_Rs {n : Nat} : ∀ (rs : List Row) (d : Nat), okRs n rs d → PyAll (2 * d + 5) (encRs rs) (pRs rs)
  | [], _, _ => .nil _
  | r :: rs, d, h => .cons (py_R r d h.1) (py_Rs rs d h.2)
end
theorem py_Rt {n : Nat} {rs : List Row} {O : Own} (h : okRs n rs 3) : pyD O 40 (.tup (encRs rs)) = some (.tuple (pRs rs)) := Py.tup (py_Rs rs 3 h) O 40 (by decide)
theorem eqv_rows_nil (rs : List Row) : PyData.eqv (.tuple (pRs rs)) (.tuple []) = rs.isEmpty := by
  cases rs with
  | nil => show PyData.eqv (.tuple []) (.tuple []) = true; rw [eqv_tup, eqvAll_nil]
  | cons r rs => show PyData.eqv (.tuple (pR r :: pRs rs)) (.tuple []) = false; rw [eqv_tup, eqvAll_l]
theorem sem_first_place (C : Addr) (ds : List D) (O : Own) (R : D → Own → Prop) (h : S_first_place C ds O R) : R_first_place C { nx := fun _ O' => Pure O R .non O', rt := Pure O R } (startD N_first_place ds) O := by
  obtain ⟨tp, rs, rfl, ok, h⟩ := h
  walk_at "w"
  refine ⟨rfl, ?_⟩
  walk_at "w"
  rw [py_Rt ok.row]
  walk_at "w"
  refine ifB (fun e => ?_) (fun e => ?_)
  · have e' : rs.isEmpty = true := by rw [← eqv_rows_nil]; exact e
    unfold firstP at h
    rw [if_pos e'] at h
    exact Pure.same .non h
  · have e' : rs.isEmpty = false := by rw [← eqv_rows_nil]; exact e
    unfold firstP at h
    rw [if_neg (by rw [e']; exact Bool.false_ne_true)] at h
    exact Pure.same (encPc_hd [0]) h
/-! ### into -/
def intoP (rs : List Row) (p : Pl) (r : Row) (b : Nat) (x : List Row) : Option Pl := if x.isEmpty then (if isLoop r then some p else behindP rs p) else some (.sub p b 0)
def N_into : List Str := ["program", "place", "branch", "row"]
def R_into (cProgram : Addr) : DS :=
  (dSeq (dAsg (dMeth cProgram "row" (S_Program_row cProgram) (dVar 0) (dCons (dVar 1) dNil)) (dgName 3))
  (dSeq (dIfS (dTest (dOp neD (dOp ixD (dCall S_inner_rows (dCons (dVar 3) dNil)) (dVar 2)) (dTup dNil))) (dRet (dOp addD (dVar 1) (dTup (dCons (dVar 2) (dCons (dC (.int 0)) dNil))))) dNext)
  (dSeq (dIfS (dTest (dOp eqD (dOp ixD (dVar 3) (dC (.int 0))) (dC (.str "loop")))) (dRet (dVar 1)) dNext)
  (dRet (dCall (S_behind cProgram 5) (dCons (dVar 0) (dCons (dVar 1) dNil)))))))
def S_into (C : Addr) : DSp := fun ds O R => ∃ (tp : List Nat) (rs : List Row) (p : Pl) (r : Row) (b : Nat) (x : List Row), ds = [encPr C tp rs, encPc p.list, .int b] ∧ PrOk tp rs ∧ rowP rs p = some r ∧ (innerR r)[b]? = some x ∧ R (encO (intoP rs p r b x)) O
theorem len_into (C : Addr) (ds : List D) (O : Own) (R : D → Own → Prop) (h : S_into C ds O R) : ds.length = 3 := by obtain ⟨_, _, _, _, _, _, rfl, _⟩ := h; rfl
theorem okR_le2 {n : Nat} {x : List Row} {r : Row} {d b : Nat} (h : okR n r d) (hx : (innerR r)[b]? = some x) (hd : d ≤ 3) : ∀ O, pyD O 40 (.tup (encRs x)) = some (.tuple (pRs x)) := fun O => by
  obtain ⟨h1, h2⟩ := innerR_ok h x (List.mem_of_getElem? hx)
  exact Py.tup (py_Rs x (d - 1) h2) O 40 (by omega)
theorem sem_into (C : Addr) (ds : List D) (O : Own) (R : D → Own → Prop) (h : S_into C ds O R) : R_into C { nx := fun _ O' => Pure O R .non O', rt := Pure O R } (startD N_into ds) O := by
  obtain ⟨tp, rs, p, r, b, x, rfl, ok, hr, hx, h⟩ := h
  have okr := rowP_ok ok.row p r hr
  obtain ⟨tl, et⟩ := encR_tup r
  walk_at "w"
  refine ⟨rfl, rfl, ?_⟩
  refine ⟨tp, rs, p.fst, p.more, r, by rw [encPl_eq]; rfl, by rw [rowP_at]; exact hr, by rw [more_len]; exact okr.1, ?_⟩
  refine ⟨r, rfl, ?_⟩
  walk_at "w"
  have gb : ((innerR r).map fun x => D.tup (encRs x))[b]? = some (.tup (encRs x)) := by rw [List.getElem?_map, hx]; rfl
  rw [atD_nat gb]
  walk_at "w"
  rw [okR_le2 okr.2 hx (by omega)]
  walk_at "w"
  unfold intoP at h
  refine ifNB ⟨fun e => ?_, fun e => ?_⟩
  · have e' : x.isEmpty = true := by rw [← eqv_rows_nil]; exact e
    rw [if_pos e'] at h
    walk_at "w"
    rw [et]
    walk_at "w"
    refine strQ (tag_ok r) ok_loop (tag_loop r) ?_
    refine ifB (fun q => ?_) (fun q => ?_)
    · rw [if_pos q] at h
      exact Pure.same (encPc_hd p.list) h
    · rw [if_neg (by rw [q]; exact Bool.false_ne_true)] at h
      exact ⟨tp, rs, p, r, rfl, ok, hr, Nat.le_trans okr.1 (by decide), Pure.same (encO_hd _) h⟩
  · have e' : x.isEmpty = false := by rw [← eqv_rows_nil]; exact e
    rw [if_neg (by rw [e']; exact Bool.false_ne_true)] at h
    walk_at "w"
    refine ⟨by rw [List.length_map, list_len]; show _ + 2 ≤ _; omega, ?_⟩
    have e4 : p.list.map (fun i : Nat => D.int (i : Int)) ++ [.int (b : Nat), .int 0] = (Pl.sub p b 0).list.map (fun i : Nat => D.int (i : Int)) := by
      show _ = (p.list ++ [b, 0]).map _
      rw [List.map_append]
      rfl
    rw [e4]
    exact Pure.same (encPc_hd (Pl.sub p b 0).list) h
/-! ### alone, asked -/
def N_alone : List Str := ["many", "box", "number", "found"]
def R_alone : DS :=
  (dSeq (dAsg (dNew (dTimes (dFrz (dLst (dCons (dC (.int 0)) dNil))) (dVar 0))) (dgName 3))
  (dSeq (dAsg (dVar 2) (dgSub (dVar 3) (dVar 1)))
  (dRet (dCall1 tupleD (dCons (dVar 3) dNil)))))
def S_alone : DSp := fun ds O R => ∃ (n b : Nat) (x : Int), ds = [.int n, .int b, .int x] ∧ n ≤ 100 ∧ b < n ∧ R (.tup (encI ((List.replicate n 0).set b x))) O
theorem len_alone (ds : List D) (O : Own) (R : D → Own → Prop) (h : S_alone ds O R) : ds.length = 3 := by obtain ⟨_, _, _, rfl, _⟩ := h; rfl
theorem sem_alone (ds : List D) (O : Own) (R : D → Own → Prop) (h : S_alone ds O R) : R_alone { nx := fun _ O' => Pure O R .non O', rt := Pure O R } (startD N_alone ds) O := by
  obtain ⟨n, b, x, rfl, hn, hb, h⟩ := h
  walk_at "w"
  refine ⟨by simp; omega, ?_⟩
  rw [Int.toNat_natCast, flat_zero]
  walk_at "w"
  rw [top_get]
  walk_at "w"
  have e1 : ixN (encI (List.replicate n 0)).length ((b : Nat) : Int) = some b := by
    unfold ixN
    rw [encI_length, List.length_replicate, if_pos (by omega), if_pos (by omega), Int.toNat_natCast]
  rw [e1]
  walk_at "w"
  rw [top_set]
  have e2 : (encI (List.replicate n 0)).set b (.int x) = encI ((List.replicate n 0).set b x) := by unfold encI; rw [List.map_set]
  rw [e2]
  walk_at "w"
  rw [asL_top]
  exact Pure.up top_take (.same (.tup (encI_hd _))) h
def N_asked : List Str := ["program", "place", "row", "found", "many", "box"]
def R_asked (cProgram : Addr) : DS :=
  (dSeq (dAsg (dMeth cProgram "row" (S_Program_row cProgram) (dVar 0) (dCons (dVar 1) dNil)) (dgName 2))
  (dSeq (dIfS (dTest (dOp eqD (dOp ixD (dVar 2) (dC (.int 0))) (dC (.str "say")))) (dRet (dNew (dLst (dCons (dOp ixD (dVar 2) (dC (.int 1))) dNil)))) dNext)
  (dSeq (dAsg (dNew (dList (dOp ixD (dVar 2) (dC (.int 2))))) (dgName 3))
  (dSeq (dAsg (dCall1 lenD (dCons (dFld cProgram (dVar 0) "tops") dNil)) (dgName 4))
  (dSeq (dFor (diR1 (dVar 4)) (dgName 5) (dSeq (dDrop (dApp (dVar 3) (dTup (dCons (dCall S_alone (dCons (dVar 4) (dCons (dVar 5) (dCons (negD (dC (.int 1))) dNil)))) (dCons (dC (.int 0)) dNil)))))
  (dDrop (dApp (dVar 3) (dTup (dCons (dCall S_alone (dCons (dVar 4) (dCons (dVar 5) (dCons (dC (.int 1)) dNil)))) (dCons (dOp subD (dC (.int 0)) (dOp ixD (dFld cProgram (dVar 0) "tops") (dVar 5))) dNil)))))))
  (dRet (dVar 3)))))))
/-- what is asked at a say or a loop -/
def boundsS (tp : List Nat) (n : Nat) : Nat → List Sm
  | 0 => []
  | k + 1 => boundsS tp n k ++ [unitS n k (-1) 0, unitS n k 1 (0 - (tp.getD k 0 : Nat))]
def askedS (tp : List Nat) : Row → List Sm
  | .say s => [s]
  | .loop _ ws _ => ws ++ boundsS tp tp.length tp.length
  | _ => []
def asks : Row → Bool
  | .say _ => true
  | .loop _ _ _ => true
  | _ => false
def S_asked (C : Addr) : DSp := fun ds O R => ∃ (tp : List Nat) (rs : List Row) (p : Pl) (r : Row), ds = [encPr C tp rs, encPc p.list] ∧ PrOk tp rs ∧ rowP rs p = some r ∧ asks r = true ∧ R (.own O.length) (O ++ [some (.lst (encSs (askedS tp r)))])
theorem len_asked (C : Addr) (ds : List D) (O : Own) (R : D → Own → Prop) (h : S_asked C ds O R) : ds.length = 2 := by obtain ⟨_, _, _, _, rfl, _⟩ := h; rfl
theorem boundsS_len (tp : List Nat) (n : Nat) : ∀ k, (boundsS tp n k).length = 2 * k
  | 0 => rfl
  | k + 1 => by show (boundsS tp n k ++ _).length = _; rw [List.length_append, boundsS_len tp n k]; show 2 * k + 2 = _; omega
theorem sem_asked (C : Addr) (ds : List D) (O : Own) (R : D → Own → Prop) (h : S_asked C ds O R) : R_asked C { nx := fun _ O' => R .non O', rt := R } (startD N_asked ds) O := by
  obtain ⟨tp, rs, p, r, rfl, ok, hr, ha, h⟩ := h
  have okr := rowP_ok ok.row p r hr
  walk_at "w"
  refine ⟨rfl, rfl, ?_⟩
  refine ⟨tp, rs, p.fst, p.more, r, by rw [encPl_eq]; rfl, by rw [rowP_at]; exact hr, by rw [more_len]; exact okr.1, ?_⟩
  cases r with
  | put b s => cases ha
  | ite s a b => cases ha
  | say s =>
    walk_at "w"
    refine strT ok_say ?_
    exact h
  | loop s ws body =>
    have hw := okr.2.2.2.1
    walk_at "w"
    refine strF ok_loop ok_say (by decide +kernel) ?_
    walk_at "w"
    refine ⟨rfl, ?_⟩
    walk_at "w"
    rw [encN_length]
    have t3 := ok.top.few
    refine ⟨by omega, ?_⟩
    rw [Int.toNat_natCast]
    refine forL_rng tp.length (fun k δ O' => O' = O ++ [some (.lst (encSs (ws ++ boundsS tp tp.length k)))] ∧ ∃ a5, δ = [some (encPr C tp rs), some (encPc p.list), some (encR (.loop s ws body)), some (.own O.length), some (.int tp.length), a5]) ⟨by show _ = O ++ [some (.lst (encSs (ws ++ [])))]; rw [List.append_nil], _, rfl⟩ (fun _ _ _ _ => trivial) ?_ ?_
    · rintro k δ O' nx hk ⟨rfl, a5, rfl⟩ hx
      have gk : tp[k]? = some tp[k] := List.getElem?_eq_getElem hk
      have ek : tp.getD k 0 = tp[k] := by rw [List.getD_eq_getElem?_getD, gk]; rfl
      walk_at "w"
      rw [asL_top]
      walk_at "w"
      refine ⟨tp.length, k, -1, rfl, by omega, hk, ?_⟩
      walk_at "w"
      rw [top_get]
      walk_at "w"
      have lb := boundsS_len tp tp.length k
      refine ⟨by rw [encSs_length, List.length_append]; omega, ?_⟩
      rw [top_set]
      walk_at "w"
      rw [asL_top]
      walk_at "w"
      refine ⟨tp.length, k, 1, rfl, by omega, hk, ?_⟩
      walk_at "w"
      refine ⟨rfl, ?_⟩
      walk_at "w"
      rw [atD_nat (encN_get gk)]
      walk_at "w"
      rw [top_get]
      walk_at "w"
      refine ⟨by rw [List.length_append, encSs_length, List.length_append]; show _ + 1 < _; omega, ?_⟩
      rw [top_set]
      refine hx _ _ ⟨?_, some (.int (k : Nat)), rfl⟩
      show _ = O ++ [some (.lst (encSs (ws ++ (boundsS tp tp.length k ++ [unitS tp.length k (-1) 0, unitS tp.length k 1 (0 - (tp.getD k 0 : Nat))]))))]
      rw [ek, ← List.append_assoc]
      unfold encSs
      rw [List.map_append (l₁ := ws ++ boundsS tp tp.length k), List.append_assoc]
      rfl
    · rintro δ O' ⟨rfl, a5, rfl⟩
      exact h
end DL

/-! Plain facts of sums. -/
namespace DL
open PySem L2
theorem dot_abs : ∀ (as bs : List Int) (n k : Nat), BdL n as → BdL k bs → (dot as bs).natAbs ≤ as.length * 2 ^ (n + k)
  | [], _, n, k, _, _ => by unfold dot; exact Nat.zero_le _
  | _ :: _, [], n, k, _, _ => by unfold dot; exact Nat.zero_le _
  | a :: as, b :: bs, n, k, h1, h2 => by
    have h := dot_abs as bs n k h1.tail h2.tail
    have g : (a * b).natAbs < 2 ^ (n + k) := h1.head.mul h2.head
    have t := Int.natAbs_add_le (a * b) (dot as bs)
    show (a * b + dot as bs).natAbs ≤ (as.length + 1) * 2 ^ (n + k)
    rw [Nat.add_mul, Nat.one_mul]
    omega
theorem dot_bd (as bs : List Int) (n k : Nat) (h1 : BdL n as) (h2 : BdL k bs) (hl : as.length ≤ 3) : Bd (n + k + 4) (dot as bs) := by
  have h := dot_abs as bs n k h1 h2
  unfold Bd
  have e : 2 ^ (n + k + 4) = 2 ^ (n + k) * 16 := Nat.pow_add ..
  have p : 0 < 2 ^ (n + k) := Nat.two_pow_pos _
  have q : as.length * 2 ^ (n + k) ≤ 3 * 2 ^ (n + k) := Nat.mul_le_mul_right _ hl
  rw [e]
  omega
theorem dot_addk (k : Int) : ∀ (acc c f : List Int), acc.length = f.length → c.length = f.length → dot (addk k acc c) f = dot acc f + k * dot c f
  | [], [], [], _, _ => by unfold addk dot; simp
  | a :: acc, x :: c, y :: f, h, g => by
    have ih := dot_addk k acc c f (by simpa using h) (by simpa using g)
    unfold addk at ih ⊢
    show (a + k * x) * y + dot (List.zipWith (fun a x => a + k * x) acc c) f = a * y + dot acc f + k * (x * y + dot c f)
    rw [ih, Int.add_mul, Int.mul_add, Int.mul_assoc]
    omega
  | [], [], _ :: _, h, _ => by simp at h
  | [], _ :: _, [], _, g => by simp at g
  | [], _ :: _, _ :: _, h, _ => by simp at h
  | _ :: _, _, [], h, _ => by simp at h
  | _ :: _, [], _ :: _, _, g => by simp at g
theorem addk_length {k : Int} {acc c : List Int} {n : Nat} (h : acc.length = n) (g : c.length = n) : (addk k acc c).length = n := by unfold addk; rw [List.length_zipWith, h, g, Nat.min_self]
theorem val_put (f : List Int) : ∀ (ks : List Int) (bs : List Sm) (acc : List Int) (m : Int), (∀ b ∈ bs, b.1.length = f.length) → acc.length = f.length → valS (putAcc ks bs acc m) f = m + dot acc f + dot ks (bs.map fun b => valS b f)
  | [], _, acc, m, _, _ => by unfold putAcc; simp [valS, dot]
  | _ :: _, [], acc, m, _, _ => by unfold putAcc; simp [valS, dot]
  | k :: ks, b :: bs, acc, m, h, g => by
    have hb := h b List.mem_cons_self
    show valS (putAcc ks bs (addk k acc b.1) (m + k * b.2)) f = m + dot acc f + (k * valS b f + dot ks (bs.map fun b => valS b f))
    rw [val_put f ks bs _ _ (fun b hb => h b (List.mem_cons_of_mem _ hb)) (addk_length g hb), dot_addk k acc b.1 f g hb]
    unfold valS
    rw [Int.mul_add]
    omega
theorem put_snd : ∀ (ks : List Int) (bs : List Sm) (acc : List Int) (m : Int), (putAcc ks bs acc m).2 = m + dot ks (bs.map fun b => b.2)
  | [], _, acc, m => by unfold putAcc dot; simp
  | _ :: _, [], acc, m => by unfold putAcc; simp [dot]
  | k :: ks, b :: bs, acc, m => by
    show (putAcc ks bs (addk k acc b.1) (m + k * b.2)).2 = m + (k * b.2 + dot ks (bs.map fun b => b.2))
    rw [put_snd ks bs, Int.add_assoc]
theorem range_getD : ∀ (l : List Int), (List.range l.length).map (fun j => l.getD j 0) = l := by
  intro l
  refine List.ext_getElem? fun i => ?_
  rw [List.getElem?_map]
  by_cases h : i < l.length
  · rw [List.getElem?_range h, List.getElem?_eq_getElem h]
    show some (l.getD i 0) = _
    rw [List.getD_eq_getElem?_getD, List.getElem?_eq_getElem h]
    rfl
  · rw [List.getElem?_eq_none (by simpa using h), List.getElem?_eq_none (by omega)]
    rfl
theorem addk_getD {k : Int} {acc c : List Int} (h : acc.length = c.length) (j : Nat) : (addk k acc c).getD j 0 = acc.getD j 0 + k * c.getD j 0 := by
  unfold addk
  rw [List.getD_eq_getElem?_getD, List.getD_eq_getElem?_getD, List.getD_eq_getElem?_getD, List.getElem?_zipWith]
  by_cases e : j < acc.length
  · rw [List.getElem?_eq_getElem e, List.getElem?_eq_getElem (by omega)]
    rfl
  · rw [List.getElem?_eq_none (by omega), List.getElem?_eq_none (by omega)]
    simp
theorem put_fst (n : Nat) : ∀ (ks : List Int) (bs : List Sm) (acc : List Int) (m : Int), (∀ b ∈ bs, b.1.length = n) → acc.length = n → (putAcc ks bs acc m).1 = (List.range n).map fun j => acc.getD j 0 + dot ks (bs.map fun b => b.1.getD j 0)
  | [], _, acc, m, _, g => by
    unfold putAcc dot
    simp only [Int.add_zero]
    rw [← g]
    exact (range_getD acc).symm
  | _ :: _, [], acc, m, _, g => by
    unfold putAcc
    simp only [List.map_nil, dot, Int.add_zero]
    rw [← g]
    exact (range_getD acc).symm
  | k :: ks, b :: bs, acc, m, h, g => by
    have hb := h b List.mem_cons_self
    show (putAcc ks bs (addk k acc b.1) (m + k * b.2)).1 = _
    rw [put_fst n ks bs _ _ (fun b hb => h b (List.mem_cons_of_mem _ hb)) (addk_length g hb)]
    refine List.map_congr_left fun j _ => ?_
    show (addk k acc b.1).getD j 0 + dot ks (bs.map fun b => b.1.getD j 0) = acc.getD j 0 + (k * b.1.getD j 0 + dot ks (bs.map fun b => b.1.getD j 0))
    rw [addk_getD (by omega), Int.add_assoc]
theorem dot_sum : ∀ (as : List Int) (M : Nat) (g : Nat → Int), as.length = M → dot as ((List.range M).map g) = ((List.range M).map fun k => as.getD k 0 * g k).sum
  | [], M, g, h => by subst h; rfl
  | a :: as, M, g, h => by
    subst h
    show dot (a :: as) ((List.range (as.length + 1)).map g) = ((List.range (as.length + 1)).map fun k => (a :: as).getD k 0 * g k).sum
    rw [List.range_succ_eq_map, List.map_cons, List.map_cons, List.sum_cons, List.map_map, List.map_map]
    show a * g 0 + dot as ((List.range as.length).map (g ∘ Nat.succ)) = _
    rw [dot_sum as as.length (g ∘ Nat.succ) rfl]
    rfl
theorem BdL.getD {n : Nat} {l : List Int} (h : BdL n l) (i : Nat) : Bd n (l.getD i 0) := by
  rw [List.getD_eq_getElem?_getD]
  cases e : l[i]? with
  | none => show (0 : Int).natAbs < 2 ^ n; exact Nat.two_pow_pos _
  | some x => exact h x (List.mem_of_getElem? e)
end DL

/-! Ways. -/
namespace DL
open PySem L2
local macro_rules | `(tactic| walk_at "w") => `(tactic| conv => whnf)
structure WayS where
  begin_ : List Nat
  truths : List Bool
  done : Nat
  words : List Sm
  boxes : List Sm
def encB (l : List Bool) : List D := l.map D.bl
theorem encB_hd {n : Nat} (l : List Bool) : HdL n (encB l) := HdL.of fun d hd => by
  obtain ⟨p, _, rfl⟩ := List.mem_map.mp hd
  exact .bl _
def wayF (a b c d e : D) : List (Str × D) := [("begin", a), ("truths", b), ("done", c), ("words", d), ("boxes", e)]
def encW (C : Addr) (w : WayS) : D := .ins C (wayF (encPc w.begin_) (.tup (encB w.truths)) (.int (w.done : Nat)) (.lst (encSs w.words)) (.lst (encSs w.boxes)))
theorem wayF_hd {n : Nat} (w : WayS) : HdF n (wayF (encPc w.begin_) (.tup (encB w.truths)) (.int (w.done : Nat)) (.lst (encSs w.words)) (.lst (encSs w.boxes))) :=
  .cons (encPc_hd _) (.cons (.tup (encB_hd _)) (.cons (.int _) (.cons (.lst (encSs_hd _)) (.cons (.lst (encSs_hd _)) .nil))))
def N_Way_init : List Str := ["self", "begin", "truths", "done", "words", "boxes"]
def R_Way_init (cWay : Addr) : DS :=
  (dSeq (dsFld cWay (dVar 0) (dVar 1) "begin")
  (dSeq (dsFld cWay (dVar 0) (dVar 2) "truths")
  (dSeq (dsFld cWay (dVar 0) (dVar 3) "done")
  (dSeq (dsFld cWay (dVar 0) (dVar 4) "words")
  (dsFld cWay (dVar 0) (dVar 5) "boxes")))))
def S_Way_init (C : Addr) : DSp := fun ds O R => ∃ (h : Nat) (a b c d e : D), ds = [.own h, a, b, c, d, e] ∧ O[h]? = some (some (.ins C [])) ∧ R .non (O.set h (some (.ins C (wayF a b c d e))))
theorem len_Way_init (C : Addr) (ds : List D) (O : Own) (R : D → Own → Prop) (h : S_Way_init C ds O R) : ds.length = 6 := by obtain ⟨_, _, _, _, _, _, rfl, _⟩ := h; rfl
theorem sem_Way_init (C : Addr) (ds : List D) (O : Own) (R : D → Own → Prop) (h : S_Way_init C ds O R) : R_Way_init C { nx := fun _ O' => R .non O', rt := R } (startD N_Way_init ds) O := by
  obtain ⟨hd, a, b, c, d, e, rfl, hO, h⟩ := h
  have hlt : hd < O.length := (List.getElem?_eq_some_iff.mp hO).1
  walk_at "w"
  rw [hO]
  refine ⟨rfl, (by show 0 < 1000; decide), ?_⟩
  walk_at "w"
  rw [setget hlt]
  refine ⟨rfl, (by show 1 < 1000; decide), ?_⟩
  rw [List.set_set]
  walk_at "w"
  rw [setget hlt]
  refine ⟨rfl, (by show 2 < 1000; decide), ?_⟩
  rw [List.set_set]
  walk_at "w"
  rw [setget hlt]
  refine ⟨rfl, (by show 3 < 1000; decide), ?_⟩
  rw [List.set_set]
  walk_at "w"
  rw [setget hlt]
  refine ⟨rfl, (by show 4 < 1000; decide), ?_⟩
  rw [List.set_set]
  exact h
/-- a way made and given up -/
theorem way_made {C : Addr} {w : WayS} {O : Own} {Q : D → Own → Prop} (h : Q (encW C w) O) : ∃ d', (O ++ [some (DO.ins C (wayF (encPc w.begin_) (.tup (encB w.truths)) (.int (w.done : Nat)) (.lst (encSs w.words)) (.lst (encSs w.boxes))))]).take O.length = O ∧
    Res (O ++ [some (DO.ins C (wayF (encPc w.begin_) (.tup (encB w.truths)) (.int (w.done : Nat)) (.lst (encSs w.words)) (.lst (encSs w.boxes))))]) O.length (.own O.length) d' ∧ Q d' O :=
  ⟨encW C w, top_take, .ownI (Nat.le_refl _) top_get (ResF.same (wayF_hd w)), h⟩
def N_Way_further : List Str := ["self", "words"]
def R_Way_further (cWay : Addr) : DS :=
  (dRet (dGive (dMake cWay (S_Way_init cWay) (dCons (dFld cWay (dVar 0) "begin") (dCons (dFld cWay (dVar 0) "truths") (dCons (dOp addD (dFld cWay (dVar 0) "done") (dC (.int 1))) (dCons (dOp addD (dFld cWay (dVar 0) "words") (dVar 1)) (dCons (dFld cWay (dVar 0) "boxes") dNil))))))))
def S_Way_further (C : Addr) : DSp := fun ds O R => ∃ (w : WayS) (ws : List Sm), ds = [encW C w, .lst (encSs ws)] ∧ w.words.length + ws.length ≤ 1000000 ∧ R (encW C ⟨w.begin_, w.truths, w.done + 1, w.words ++ ws, w.boxes⟩) O
theorem len_Way_further (C : Addr) (ds : List D) (O : Own) (R : D → Own → Prop) (h : S_Way_further C ds O R) : ds.length = 2 := by obtain ⟨_, _, rfl, _⟩ := h; rfl
theorem encSs_append (a b : List Sm) : encSs (a ++ b) = encSs a ++ encSs b := by unfold encSs; rw [List.map_append]
theorem encW_hd {n : Nat} (C : Addr) (w : WayS) : Hd n (encW C w) := .ins (wayF_hd w)
theorem sem_Way_further (C : Addr) (ds : List D) (O : Own) (R : D → Own → Prop) (h : S_Way_further C ds O R) : R_Way_further C { nx := fun _ O' => Pure O R .non O', rt := Pure O R } (startD N_Way_further ds) O := by
  obtain ⟨w, ws, rfl, hl, h⟩ := h
  walk_at "w"
  refine ⟨rfl, ?_⟩
  walk_at "w"
  refine ⟨rfl, ?_⟩
  walk_at "w"
  refine ⟨rfl, ?_⟩
  walk_at "w"
  refine ⟨rfl, ?_⟩
  walk_at "w"
  refine ⟨by rw [encSs_length, encSs_length]; exact hl, ?_⟩
  rw [← encSs_append]
  walk_at "w"
  refine ⟨rfl, ?_⟩
  walk_at "w"
  refine ⟨O.length, _, _, _, _, _, rfl, top_get, rfl, ?_⟩
  rw [top_set]
  exact way_made (w := ⟨w.begin_, w.truths, w.done + 1, w.words ++ ws, w.boxes⟩) (Pure.same (encW_hd _ _) h)
structure WayOk (n : Nat) (w : WayS) : Prop where
  n1 : 1 ≤ n
  n3 : n ≤ 3
  len : w.boxes.length = n
  box : ∀ b ∈ w.boxes, b.1.length = n ∧ BdL (10 * (w.done + 1)) b.1 ∧ Bd (10 * (w.done + 1)) b.2
  done : w.done ≤ 100
  words : w.words.length ≤ 1000
  truths : w.truths.length ≤ 1000
theorem WayOk.bx {n : Nat} {w : WayS} (h : WayOk n w) : ∀ b ∈ w.boxes, BxOk n b := fun b hb => by
  obtain ⟨h1, h2, h3⟩ := h.box b hb
  have := h.done
  exact ⟨h1, fun x hx => (h2 x hx).mono (by omega), h3.mono (by omega)⟩
theorem putS_bd {n B : Nat} {s : Sm} {bs : List Sm} (hs : SmW n s) (hl : bs.length = n) (n3 : n ≤ 3) (hb : ∀ b ∈ bs, b.1.length = n ∧ BdL B b.1 ∧ Bd B b.2) (hB : 7 ≤ B) : (putS n s bs).1.length = n ∧ BdL (B + 10) (putS n s bs).1 ∧ Bd (B + 10) (putS n s bs).2 := by
  have b4 : BdL 4 s.1 := fun x hx => Bd.of 9 (by have := hs.2.1 x hx; omega) (by decide)
  have f1 : (putS n s bs).1 = (List.range n).map fun j => (List.replicate n (0 : Int)).getD j 0 + dot s.1 (bs.map fun b => b.1.getD j 0) := put_fst n s.1 bs _ _ (fun b hb' => (hb b hb').1) (by simp)
  have z : ∀ j, (List.replicate n (0 : Int)).getD j 0 = 0 := fun j => by
    rw [List.getD_eq_getElem?_getD, List.getElem?_replicate]
    split <;> rfl
  refine ⟨by rw [f1]; simp, ?_, ?_⟩
  · rw [f1]
    intro x hx
    obtain ⟨j, _, rfl⟩ := List.mem_map.mp hx
    show Bd (B + 10) ((List.replicate n (0 : Int)).getD j 0 + dot s.1 (bs.map fun b => b.1.getD j 0))
    rw [z, Int.zero_add]
    refine (dot_bd s.1 _ 4 B b4 (fun y hy => ?_) (by rw [hs.1]; exact n3)).mono (by omega)
    obtain ⟨b, hb', rfl⟩ := List.mem_map.mp hy
    exact BdL.getD (hb b hb').2.1 j
  · have f2 : (putS n s bs).2 = s.2 + dot s.1 (bs.map fun b => b.2) := put_snd s.1 bs _ _
    rw [f2]
    have d1 := dot_bd s.1 (bs.map fun b => b.2) 4 B b4 (fun y hy => by obtain ⟨b, hb', rfl⟩ := List.mem_map.mp hy; exact (hb b hb').2.2) (by rw [hs.1]; exact n3)
    have d2 : Bd (4 + B + 4) s.2 := Bd.of 99 (by have := hs.2.2; omega) (Nat.lt_of_lt_of_le (by decide : 99 < 2 ^ 7) (two_le (by omega)))
    exact (d2.add' d1).mono (by omega)
theorem call_put {n : Nat} {w : WayS} {s : Sm} {O : Own} {R : D → Own → Prop} (ok : WayOk n w) (hs : SmW n s) (q : R (encS (putS n s w.boxes)) O) : S_put_in [encS s, .lst (w.boxes.map encS)] O R :=
  ⟨s, w.boxes, n, rfl, by rw [hs.1, ok.len], by rw [ok.len]; exact ok.n1, by have := ok.n3; omega, fun x hx => (hs.bd x hx).mono (by decide), ok.bx, q⟩
def chosenW (n : Nat) (w : WayS) (s : Sm) (t : Bool) : WayS := ⟨w.begin_, w.truths ++ [t], w.done + 1, w.words ++ [if t then putS n s w.boxes else oppS (putS n s w.boxes)], w.boxes⟩
def N_Way_chosen : List Str := ["self", "word", "truth", "one"]
def R_Way_chosen (cWay : Addr) : DS :=
  (dSeq (dAsg (dCall S_put_in (dCons (dVar 1) (dCons (dFld cWay (dVar 0) "boxes") dNil))) (dgName 3))
  (dSeq (dIfS (dNot (dTest (dVar 2))) (dAsg (dCall S_opposite (dCons (dVar 3) dNil)) (dgName 3)) dNext)
  (dRet (dGive (dMake cWay (S_Way_init cWay) (dCons (dFld cWay (dVar 0) "begin") (dCons (dOp addD (dFld cWay (dVar 0) "truths") (dTup (dCons (dVar 2) dNil))) (dCons (dOp addD (dFld cWay (dVar 0) "done") (dC (.int 1))) (dCons (dOp addD (dFld cWay (dVar 0) "words") (dFrz (dLst (dCons (dVar 3) dNil)))) (dCons (dFld cWay (dVar 0) "boxes") dNil))))))))))
def S_Way_chosen (C : Addr) : DSp := fun ds O R => ∃ (n : Nat) (w : WayS) (s : Sm) (t : Bool), ds = [encW C w, encS s, .bl t] ∧ WayOk n w ∧ SmW n s ∧ R (encW C (chosenW n w s t)) O
theorem len_Way_chosen (C : Addr) (ds : List D) (O : Own) (R : D → Own → Prop) (h : S_Way_chosen C ds O R) : ds.length = 3 := by obtain ⟨_, _, _, _, rfl, _⟩ := h; rfl
def R_Way_chosen_2 (cWay : Addr) : DS :=
  (dRet (dGive (dMake cWay (S_Way_init cWay) (dCons (dFld cWay (dVar 0) "begin") (dCons (dOp addD (dFld cWay (dVar 0) "truths") (dTup (dCons (dVar 2) dNil))) (dCons (dOp addD (dFld cWay (dVar 0) "done") (dC (.int 1))) (dCons (dOp addD (dFld cWay (dVar 0) "words") (dFrz (dLst (dCons (dVar 3) dNil)))) (dCons (dFld cWay (dVar 0) "boxes") dNil))))))))
theorem chosen_end {C : Addr} {n : Nat} {w : WayS} {s one : Sm} {t : Bool} {O : Own} {R : D → Own → Prop} (ok : WayOk n w) (e : one = if t then putS n s w.boxes else oppS (putS n s w.boxes)) (h : R (encW C (chosenW n w s t)) O) :
    R_Way_chosen_2 C { nx := fun _ O' => Pure O R .non O', rt := Pure O R } [some (encW C w), some (encS s), some (.bl t), some (encS one)] O := by
  walk_at "w"
  refine ⟨rfl, ?_⟩
  walk_at "w"
  refine ⟨rfl, ?_⟩
  walk_at "w"
  have tl : (encB w.truths).length ≤ 1000 := by unfold encB; rw [List.length_map]; exact ok.truths
  refine ⟨by show (encB w.truths).length + 1 ≤ _; omega, ?_⟩
  walk_at "w"
  refine ⟨rfl, ?_⟩
  walk_at "w"
  refine ⟨rfl, ?_⟩
  walk_at "w"
  have wl := ok.words
  refine ⟨by rw [encSs_length]; show _ + 1 ≤ _; omega, ?_⟩
  walk_at "w"
  refine ⟨rfl, ?_⟩
  walk_at "w"
  refine ⟨O.length, _, _, _, _, _, rfl, top_get, rfl, ?_⟩
  rw [top_set]
  have e1 : encB w.truths ++ [D.bl t] = encB (w.truths ++ [t]) := by unfold encB; rw [List.map_append]; rfl
  have e2 : encSs w.words ++ [encS one] = encSs (w.words ++ [one]) := by rw [encSs_append]; rfl
  rw [e1, e2, e]
  exact way_made (w := chosenW n w s t) (Pure.same (encW_hd _ _) h)
theorem sem_Way_chosen (C : Addr) (ds : List D) (O : Own) (R : D → Own → Prop) (h : S_Way_chosen C ds O R) : R_Way_chosen C { nx := fun _ O' => Pure O R .non O', rt := Pure O R } (startD N_Way_chosen ds) O := by
  obtain ⟨n, w, s, t, rfl, ok, hs, h⟩ := h
  have pb := putS_bd hs ok.len ok.n3 ok.box (by omega)
  walk_at "w"
  refine ⟨rfl, ?_⟩
  refine ⟨s, w.boxes, n, rfl, by rw [hs.1, ok.len], by rw [ok.len]; exact ok.n1, by have := ok.n3; omega, fun x hx => (hs.bd x hx).mono (by decide), ok.bx, ?_⟩
  cases t with
  | true => exact chosen_end ok rfl h
  | false =>
    refine ⟨putS n s w.boxes, rfl, by rw [pb.1]; have := ok.n3; omega, ?_⟩
    exact chosen_end ok rfl h
def putW (n : Nat) (w : WayS) (b : Nat) (s : Sm) : WayS := ⟨w.begin_, w.truths, w.done + 1, w.words, w.boxes.set b (putS n s w.boxes)⟩
def N_Way_with_put : List Str := ["self", "box", "one", "boxes"]
def R_Way_with_put (cWay : Addr) : DS :=
  (dSeq (dAsg (dOp addD (dOp addD (dSl (dFld cWay (dVar 0) "boxes") dNoPart (dPart (dVar 1))) (dFrz (dLst (dCons (dCall S_put_in (dCons (dVar 2) (dCons (dFld cWay (dVar 0) "boxes") dNil))) dNil)))) (dSl (dFld cWay (dVar 0) "boxes") (dPart (dOp addD (dVar 1) (dC (.int 1)))) dNoPart)) (dgName 3))
  (dRet (dGive (dMake cWay (S_Way_init cWay) (dCons (dFld cWay (dVar 0) "begin") (dCons (dFld cWay (dVar 0) "truths") (dCons (dOp addD (dFld cWay (dVar 0) "done") (dC (.int 1))) (dCons (dFld cWay (dVar 0) "words") (dCons (dVar 3) dNil)))))))))
def S_Way_with_put (C : Addr) : DSp := fun ds O R => ∃ (n : Nat) (w : WayS) (b : Nat) (s : Sm), ds = [encW C w, .int b, encS s] ∧ WayOk n w ∧ SmW n s ∧ b < n ∧ R (encW C (putW n w b s)) O
theorem len_Way_with_put (C : Addr) (ds : List D) (O : Own) (R : D → Own → Prop) (h : S_Way_with_put C ds O R) : ds.length = 3 := by obtain ⟨_, _, _, _, rfl, _⟩ := h; rfl
theorem sem_Way_with_put (C : Addr) (ds : List D) (O : Own) (R : D → Own → Prop) (h : S_Way_with_put C ds O R) : R_Way_with_put C { nx := fun _ O' => Pure O R .non O', rt := Pure O R } (startD N_Way_with_put ds) O := by
  obtain ⟨n, w, b, s, rfl, ok, hs, hb, h⟩ := h
  have bl := ok.len
  have n3 := ok.n3
  have l1 : (cutD (encSs w.boxes) none (some ((b : Nat) : Int))).length = b := by rw [cut_lo (by rw [encSs_length]; omega), List.length_take, encSs_length]; omega
  have l2 : (cutD (encSs w.boxes) (some (((b : Nat) : Int) + 1)) none).length ≤ 1000 := by
    have e : ((b : Nat) : Int) + 1 = ((b + 1 : Nat) : Int) := rfl
    rw [e, cut_hi (by rw [encSs_length]; omega), List.length_drop, encSs_length]
    omega
  have cs : cutD (encSs w.boxes) none (some ((b : Nat) : Int)) ++ [encS (putS n s w.boxes)] ++ cutD (encSs w.boxes) (some (((b : Nat) : Int) + 1)) none = encSs (w.boxes.set b (putS n s w.boxes)) := by
    have e : ((b : Nat) : Int) + 1 = ((b + 1 : Nat) : Int) := rfl
    rw [e, cut_lo (by rw [encSs_length]; omega), cut_hi (by rw [encSs_length]; omega)]
    unfold encSs
    rw [List.map_set, List.set_eq_take_append_cons_drop, if_pos (by rw [List.length_map]; omega), List.append_assoc]
    rfl
  walk_at "w"
  refine ⟨rfl, ?_⟩
  walk_at "w"
  refine ⟨rfl, ?_⟩
  refine ⟨s, w.boxes, n, rfl, by rw [hs.1, ok.len], by rw [ok.len]; exact ok.n1, by omega, fun x hx => (hs.bd x hx).mono (by decide), ok.bx, ?_⟩
  walk_at "w"
  refine ⟨by rw [l1]; show b + 1 ≤ _; omega, ?_⟩
  walk_at "w"
  refine ⟨rfl, ?_⟩
  walk_at "w"
  refine ⟨by rw [List.length_append, l1]; show b + 1 + _ ≤ _; omega, ?_⟩
  rw [cs]
  walk_at "w"
  refine ⟨rfl, ?_⟩
  walk_at "w"
  refine ⟨rfl, ?_⟩
  walk_at "w"
  refine ⟨rfl, ?_⟩
  walk_at "w"
  refine ⟨rfl, ?_⟩
  walk_at "w"
  refine ⟨O.length, _, _, _, _, _, rfl, top_get, rfl, ?_⟩
  rw [top_set]
  exact way_made (w := putW n w b s) (Pure.same (encW_hd _ _) h)
end DL

/-! Tasks. -/
namespace DL
open PySem L2
local macro_rules | `(tactic| walk_at "w") => `(tactic| conv => whnf)
structure Tk where
  begin_ : List Nat
  truths : List Bool
  place : List Nat
  num : Nat
  done : Nat
  words : List Sm
def encTk (t : Tk) (d : D) : D := .tup [encPc t.begin_, .tup (encB t.truths), encPc t.place, .int (t.num : Nat), .int (t.done : Nat), d]
def encTks : Nat → List Tk → List D
  | _, [] => []
  | b, t :: ts => encTk t (.own b) :: encTks (b + 1) ts
def wl (ts : List Tk) : Own := ts.map fun t => some (.lst (encSs t.words))
theorem wl_length (ts : List Tk) : (wl ts).length = ts.length := List.length_map ..
theorem encTks_length : ∀ (b : Nat) (ts : List Tk), (encTks b ts).length = ts.length
  | _, [] => rfl
  | b, t :: ts => by show (encTks (b + 1) ts).length + 1 = _; rw [encTks_length]; rfl
theorem encTks_append : ∀ (b : Nat) (xs ys : List Tk), encTks b (xs ++ ys) = encTks b xs ++ encTks (b + xs.length) ys
  | b, [], ys => rfl
  | b, x :: xs, ys => by
    show encTk x (.own b) :: encTks (b + 1) (xs ++ ys) = encTk x (.own b) :: (encTks (b + 1) xs ++ encTks (b + (xs.length + 1)) ys)
    rw [encTks_append (b + 1) xs ys, Nat.add_assoc b 1, Nat.add_comm 1]
theorem cons_get {O l : Own} {a : Option DO} : (O ++ a :: l)[O.length]? = some a := by rw [List.getElem?_append_right (Nat.le_refl _), Nat.sub_self]; rfl
theorem cons_set {O l : Own} {a b : Option DO} : (O ++ a :: l).set O.length b = O ++ b :: l := by rw [List.set_append_right _ _ (Nat.le_refl _), Nat.sub_self]; rfl
theorem cons_asL {O l : Own} {ds : List D} : asL (O ++ some (.lst ds) :: l) (.own O.length) = some ds := by unfold asL; dsimp only; rw [cons_get]
/-- the tasks at a place -/
def tasksAt (n : Nat) (w : WayS) (pl : List Nat) : Nat → List Sm → List Tk
  | _, [] => []
  | k, s :: ws => ⟨w.begin_, w.truths, pl, k, w.done, w.words ++ [oppS (putS n s w.boxes)]⟩ :: tasksAt n w pl (k + 1) ws
theorem tasksAt_length (n : Nat) (w : WayS) (pl : List Nat) : ∀ (k : Nat) (ws : List Sm), (tasksAt n w pl k ws).length = ws.length
  | _, [] => rfl
  | k, s :: ws => by show (tasksAt n w pl (k + 1) ws).length + 1 = _; rw [tasksAt_length]; rfl
def N_Way_tasks_at : List Str := ["self", "place", "words", "found", "number", "word", "last"]
def R_Way_tasks_at (cWay : Addr) : DS :=
  (dSeq (dAsg (dNew (dLst dNil)) (dgName 3))
  (dSeq (dFor (diEn (dVar 2)) (dgTup 2 (dgCons (dgName 4) (dgCons (dgName 5) dgNil))) (dSeq (dAsg (dCall S_opposite (dCons (dCall S_put_in (dCons (dVar 5) (dCons (dFld cWay (dVar 0) "boxes") dNil))) dNil)) (dgName 6))
  (dDrop (dApp (dVar 3) (dTup (dCons (dFld cWay (dVar 0) "begin") (dCons (dFld cWay (dVar 0) "truths") (dCons (dVar 1) (dCons (dVar 4) (dCons (dFld cWay (dVar 0) "done") (dCons (dNew (dCat (dFld cWay (dVar 0) "words") (dFrz (dLst (dCons (dVar 6) dNil))))) dNil)))))))))))
  (dRet (dVar 3))))
def R_Way_tasks_at_b1 (cWay : Addr) : DS :=
  (dSeq (dAsg (dCall S_opposite (dCons (dCall S_put_in (dCons (dVar 5) (dCons (dFld cWay (dVar 0) "boxes") dNil))) dNil)) (dgName 6))
  (dDrop (dApp (dVar 3) (dTup (dCons (dFld cWay (dVar 0) "begin") (dCons (dFld cWay (dVar 0) "truths") (dCons (dVar 1) (dCons (dVar 4) (dCons (dFld cWay (dVar 0) "done") (dCons (dNew (dCat (dFld cWay (dVar 0) "words") (dFrz (dLst (dCons (dVar 6) dNil))))) dNil))))))))))
def S_Way_tasks_at (C : Addr) : DSp := fun ds O R => ∃ (n : Nat) (w : WayS) (pl : List Nat) (ws : List Sm), ds = [encW C w, encPc pl, .lst (encSs ws)] ∧ WayOk n w ∧ (∀ s ∈ ws, SmW n s) ∧ ws.length ≤ 1000 ∧
  R (.own O.length) (O ++ some (.lst (encTks (O.length + 1) (tasksAt n w pl 0 ws))) :: wl (tasksAt n w pl 0 ws))
theorem len_Way_tasks_at (C : Addr) (ds : List D) (O : Own) (R : D → Own → Prop) (h : S_Way_tasks_at C ds O R) : ds.length = 3 := by obtain ⟨_, _, _, _, rfl, _⟩ := h; rfl
theorem tasks_loop {C : Addr} {n : Nat} {w : WayS} {pl : List Nat} {wd : D} {chk : Own → Prop} {E : DEnds} {O : Own} (ok : WayOk n w) (hc : ∀ O', chk O') : ∀ (ws : List Sm) (k : Nat) (done : List Tk) (a b c : Option D), (∀ s ∈ ws, SmW n s) → done.length = k → k + ws.length ≤ 1000 →
    (∀ a b c, E.nx [some (encW C w), some (encPc pl), some wd, some (.own O.length), a, b, c] (O ++ some (.lst (encTks (O.length + 1) (done ++ tasksAt n w pl k ws))) :: wl (done ++ tasksAt n w pl k ws))) →
    forL (dgTup 2 (dgCons (dgName 4) (dgCons (dgName 5) dgNil))) (R_Way_tasks_at_b1 C) chk E (enumD k (encSs ws)) [some (encW C w), some (encPc pl), some wd, some (.own O.length), a, b, c] (O ++ some (.lst (encTks (O.length + 1) done)) :: wl done)
  | [], k, done, a, b, c, _, _, _, h => ⟨hc _, by have := h a b c; rw [show tasksAt n w pl k [] = [] from rfl, List.append_nil] at this; exact this⟩
  | s :: ws, k, done, a, b, c, hs, hd, hk, h => by
    have h1 := hs s List.mem_cons_self
    have pb := putS_bd h1 ok.len ok.n3 ok.box (by omega)
    have n3 := ok.n3
    rw [List.length_cons] at hk
    refine ⟨hc _, ?_⟩
    walk_at "w"
    refine ⟨rfl, ?_⟩
    refine ⟨s, w.boxes, n, rfl, by rw [h1.1, ok.len], by rw [ok.len]; exact ok.n1, by omega, fun x hx => (h1.bd x hx).mono (by decide), ok.bx, ?_⟩
    refine ⟨putS n s w.boxes, rfl, by rw [pb.1]; omega, ?_⟩
    walk_at "w"
    rw [cons_asL]
    walk_at "w"
    refine ⟨rfl, ?_⟩
    walk_at "w"
    refine ⟨rfl, ?_⟩
    walk_at "w"
    refine ⟨rfl, ?_⟩
    walk_at "w"
    refine ⟨rfl, ?_⟩
    walk_at "w"
    have wl1 := ok.words
    refine ⟨by rw [encSs_length]; show _ + 1 ≤ _; omega, ?_⟩
    have eO : ∀ x, O ++ some (DO.lst (encTks (O.length + 1) done)) :: wl done ++ [x] = O ++ some (.lst (encTks (O.length + 1) done)) :: (wl done ++ [x]) := fun x => by rw [List.append_assoc]; rfl
    walk_at "w"
    rw [eO, cons_get]
    walk_at "w"
    refine ⟨by rw [encTks_length]; omega, ?_⟩
    rw [cons_set]
    have eL : (O ++ some (DO.lst (encTks (O.length + 1) done)) :: wl done).length = O.length + 1 + done.length := by rw [List.length_append, List.length_cons, wl_length]; omega
    rw [eL]
    have e2 : encSs w.words ++ [encS (oppS (putS n s w.boxes))] = encSs (w.words ++ [oppS (putS n s w.boxes)]) := by rw [encSs_append]; rfl
    have r := tasks_loop (C := C) (wd := wd) (E := E) (O := O) ok hc ws (k + 1) (done ++ [⟨w.begin_, w.truths, pl, k, w.done, w.words ++ [oppS (putS n s w.boxes)]⟩]) (some (.int (k : Nat))) (some (encS s)) (some (encS (oppS (putS n s w.boxes)))) (fun x hx => hs x (List.mem_cons_of_mem _ hx)) (by simp [hd]) (by omega) (fun a b c => by
      have := h a b c
      rw [List.append_assoc]
      exact this)
    rw [encTks_append] at r
    unfold wl at r
    rw [List.map_append] at r
    rw [e2]
    exact r
theorem sem_Way_tasks_at (C : Addr) (ds : List D) (O : Own) (R : D → Own → Prop) (h : S_Way_tasks_at C ds O R) : R_Way_tasks_at C { nx := fun _ O' => R .non O', rt := R } (startD N_Way_tasks_at ds) O := by
  obtain ⟨n, w, pl, ws, rfl, ok, hs, hl, h⟩ := h
  walk_at "w"
  exact tasks_loop (C := C) (wd := .lst (encSs ws)) ok (fun _ => rfl) ws 0 [] none none none hs rfl (by omega) fun a b c => h
end DL

/-! Onward: the tasks from a place on. -/
namespace DL
open PySem L2
local macro_rules | `(tactic| walk_at "w") => `(tactic| conv => whnf)
def furtherW (w : WayS) (ws : List Sm) : WayS := ⟨w.begin_, w.truths, w.done + 1, w.words ++ ws, w.boxes⟩
def onw (n : Nat) (tp : List Nat) (rs : List Row) : Nat → Option Pl → WayS → List Tk
  | 0, _, _ => []
  | _ + 1, none, _ => []
  | f + 1, some p, w => match rowP rs p with
    | none => []
    | some (.put b s) => onw n tp rs f (behindP rs p) (putW n w b s)
    | some (.say s) => tasksAt n w p.list 0 [s] ++ onw n tp rs f (behindP rs p) (furtherW w [putS n s w.boxes])
    | some (.ite s a b) => onw n tp rs f (intoP rs p (.ite s a b) 0 a) (chosenW n w s true) ++ onw n tp rs f (intoP rs p (.ite s a b) 1 b) (chosenW n w s false)
    | some (.loop s ws b) => tasksAt n w p.list 0 (askedS tp (.loop s ws b))
/-- steps f and ifs i are enough from a place on -/
def enough (rs : List Row) : Nat → Nat → Option Pl → Prop
  | 0, _, _ => False
  | _ + 1, _, none => True
  | f + 1, i, some p => match rowP rs p with
    | none => False
    | some (.put _ _) => enough rs f i (behindP rs p)
    | some (.say _) => enough rs f i (behindP rs p)
    | some (.ite s a b) => 0 < i ∧ enough rs f (i - 1) (intoP rs p (.ite s a b) 0 a) ∧ enough rs f (i - 1) (intoP rs p (.ite s a b) 1 b)
    | some (.loop _ _ _) => True
theorem askedS_len {tp : List Nat} {n d : Nat} {r : Row} (h : TpOk tp) (ok : okR n r d) : (askedS tp r).length ≤ 9 := by
  have := h.few
  cases r with
  | put b s => exact Nat.zero_le _
  | ite s a b => exact Nat.zero_le _
  | say s => show 1 ≤ 9; decide
  | loop s ws b =>
    show (ws ++ boundsS tp tp.length tp.length).length ≤ 9
    rw [List.length_append, boundsS_len]
    have := ok.2.2.1
    omega
theorem onw_len {n : Nat} {tp : List Nat} {rs : List Row} (ok : PrOk tp rs) : ∀ (f i : Nat) (o : Option Pl) (w : WayS), enough rs f i o → (onw n tp rs f o w).length ≤ (9 + f) * 2 ^ i
  | 0, _, _, _, h => h.elim
  | f + 1, i, none, w, h => Nat.zero_le _
  | f + 1, i, some p, w, h => by
    have p2 : 0 < 2 ^ i := Nat.two_pow_pos i
    unfold onw
    unfold enough at h
    cases e : rowP rs p with
    | none => rw [e] at h; exact h.elim
    | some r =>
      rw [e] at h
      cases r with
      | put b s =>
        have := onw_len (n := n) ok f i (behindP rs p) (putW n w b s) h
        exact Nat.le_trans this (Nat.mul_le_mul_right _ (by omega))
      | say s =>
        have := onw_len (n := n) ok f i (behindP rs p) (furtherW w [putS n s w.boxes]) h
        show (tasksAt n w p.list 0 [s] ++ onw n tp rs f (behindP rs p) (furtherW w [putS n s w.boxes])).length ≤ _
        rw [List.length_append, tasksAt_length]
        have e2 : (9 + (f + 1)) * 2 ^ i = (9 + f) * 2 ^ i + 2 ^ i := by rw [← Nat.add_assoc, Nat.add_mul, Nat.one_mul]
        rw [e2]
        show 1 + _ ≤ _
        omega
      | ite s a b =>
        obtain ⟨h0, h1, h2⟩ := h
        obtain ⟨j, rfl⟩ : ∃ j, i = j + 1 := ⟨i - 1, by omega⟩
        have a1 := onw_len (n := n) ok f j _ (chosenW n w s true) h1
        have a2 := onw_len (n := n) ok f j _ (chosenW n w s false) h2
        show (onw n tp rs f (intoP rs p (.ite s a b) 0 a) (chosenW n w s true) ++ onw n tp rs f (intoP rs p (.ite s a b) 1 b) (chosenW n w s false)).length ≤ _
        rw [List.length_append]
        have e2 : (9 + (f + 1)) * 2 ^ (j + 1) = (9 + f) * 2 ^ j * 2 + 2 ^ (j + 1) := by rw [← Nat.add_assoc, Nat.add_mul, Nat.one_mul, Nat.pow_succ, Nat.mul_assoc]
        rw [e2]
        omega
      | loop s ws b =>
        show (tasksAt n w p.list 0 (askedS tp (.loop s ws b))).length ≤ _
        rw [tasksAt_length]
        have := askedS_len ok.top (rowP_ok ok.row p _ e).2
        have : (9 + (f + 1)) * 1 ≤ (9 + (f + 1)) * 2 ^ i := Nat.mul_le_mul_left _ p2
        omega
/-! what comes back: a list of one's own, with lists of words of its own -/
def encH : List Tk → List Nat → List D
  | t :: ts, k :: hs => encTk t (.own k) :: encH ts hs
  | _, _ => []
structure GoodH (O O' : Own) (h : Nat) (ts : List Tk) (hs : List Nat) : Prop where
  pre : O'.take O.length = O
  len : O.length ≤ O'.length
  at_ : O'[h]? = some (some (.lst (encH ts hs)))
  ge : O.length ≤ h
  many : hs.length = ts.length
  words : ∀ (i : Nat) (t : Tk) (k : Nat), ts[i]? = some t → hs[i]? = some k → O'[k]? = some (some (.lst (encSs t.words)))
  nd : hs.Nodup
  far : ∀ k ∈ hs, O.length ≤ k ∧ k ≠ h ∧ k < O'.length
theorem good_nil {O : Own} : GoodH O (O ++ [some (.lst [])]) O.length [] [] := ⟨top_take, by simp, top_get, Nat.le_refl _, rfl, fun _ _ _ h => (by cases h), List.nodup_nil, fun _ h => by cases h⟩
theorem encH_tks : ∀ (b : Nat) (ts : List Tk), encTks b ts = encH ts (List.range' b ts.length)
  | b, [] => rfl
  | b, t :: ts => by
    show encTk t (.own b) :: encTks (b + 1) ts = encH (t :: ts) (List.range' b (ts.length + 1))
    rw [List.range'_succ, encH_tks (b + 1) ts]
    rfl
theorem encH_app : ∀ (a b : List Tk) (x y : List Nat), x.length = a.length → encH (a ++ b) (x ++ y) = encH a x ++ encH b y
  | [], b, [], y, _ => rfl
  | t :: a, b, k :: x, y, h => by
    show encTk t (.own k) :: encH (a ++ b) (x ++ y) = encTk t (.own k) :: (encH a x ++ encH b y)
    rw [encH_app a b x y (by simpa using h)]
  | [], _, _ :: _, _, h => by simp at h
  | _ :: _, _, [], _, h => by simp at h
theorem encH_length : ∀ (ts : List Tk) (hs : List Nat), hs.length = ts.length → (encH ts hs).length = ts.length
  | [], [], _ => rfl
  | t :: ts, k :: hs, h => by show (encH ts hs).length + 1 = _; rw [encH_length ts hs (by simpa using h)]; rfl
  | [], _ :: _, h => by simp at h
  | _ :: _, [], h => by simp at h
theorem good_tasks {O : Own} {ts : List Tk} : GoodH O (O ++ some (.lst (encTks (O.length + 1) ts)) :: wl ts) O.length ts (List.range' (O.length + 1) ts.length) := by
  refine ⟨top_take, by simp, by rw [cons_get, encH_tks], Nat.le_refl _, by simp, fun i t k h1 h2 => ?_, List.nodup_range', fun k hk => ?_⟩
  · have hi : i < ts.length := (List.getElem?_eq_some_iff.mp h1).1
    rw [List.getElem?_range' hi] at h2
    cases h2
    rw [List.getElem?_append_right (by omega)]
    have e : O.length + 1 + 1 * i - O.length = i + 1 := by omega
    rw [e]
    show (wl ts)[i]? = _
    unfold wl
    rw [List.getElem?_map, h1]
    rfl
  · have := List.mem_range'.mp hk
    obtain ⟨i, hi, rfl⟩ := this
    refine ⟨by omega, by omega, ?_⟩
    rw [List.length_append, List.length_cons, wl_length]
    omega
theorem pre_get' {O O' : Own} {k : Nat} (h : O'.take O.length = O) (hk : k < O.length) : O'[k]? = O[k]? := by
  have e : (O'.take O.length)[k]? = O[k]? := congrArg (fun l : Own => l[k]?) h
  rw [List.getElem?_take_of_lt hk] at e
  exact e
theorem good_asL {O O' : Own} {h : Nat} {ts : List Tk} {hs : List Nat} (g : GoodH O O' h ts hs) : asL O' (.own h) = some (encH ts hs) := by unfold asL; dsimp only; rw [g.at_]
theorem good_up {O O1 O2 : Own} {h1 h2 : Nat} {t1 t2 : List Tk} {x1 x2 : List Nat} (g1 : GoodH O O1 h1 t1 x1) (g2 : GoodH O1 O2 h2 t2 x2) : asL O2 (.own h1) = some (encH t1 x1) := by
  have hl : h1 < O1.length := (List.getElem?_eq_some_iff.mp g1.at_).1
  unfold asL
  dsimp only
  rw [pre_get' g2.pre hl, g1.at_]
theorem good_app {O O1 O2 : Own} {h1 h2 : Nat} {t1 t2 : List Tk} {x1 x2 : List Nat} (g1 : GoodH O O1 h1 t1 x1) (g2 : GoodH O1 O2 h2 t2 x2) : GoodH O (O2 ++ [some (.lst (encH t1 x1 ++ encH t2 x2))]) O2.length (t1 ++ t2) (x1 ++ x2) := by
  have l1 := g1.len
  have l2 := g2.len
  refine ⟨?_, by simp; omega, by rw [top_get, encH_app _ _ _ _ g1.many], by omega, by rw [List.length_append, List.length_append, g1.many, g2.many], fun i t k a b => ?_, ?_, fun k hk => ?_⟩
  · rw [List.take_append_of_le_length (by omega)]
    have e : O2.take O.length = (O2.take O1.length).take O.length := by rw [List.take_take, Nat.min_eq_left l1]
    rw [e, g2.pre, g1.pre]
  · by_cases q : i < t1.length
    · rw [List.getElem?_append_left q] at a
      rw [List.getElem?_append_left (by rw [g1.many]; exact q)] at b
      have w := g1.words i t k a b
      have kl : k < O1.length := (List.getElem?_eq_some_iff.mp w).1
      rw [List.getElem?_append_left (by omega), pre_get' g2.pre kl]
      exact w
    · rw [List.getElem?_append_right (by omega)] at a
      rw [List.getElem?_append_right (by rw [g1.many]; omega), g1.many] at b
      have w := g2.words _ t k a b
      have kl : k < O2.length := (List.getElem?_eq_some_iff.mp w).1
      rw [List.getElem?_append_left kl]
      exact w
  · rw [List.nodup_append]
    refine ⟨g1.nd, g2.nd, fun a ha b hb e => ?_⟩
    have := (g1.far a ha).2.2
    have := (g2.far b hb).1
    omega
  · rcases List.mem_append.mp hk with z | z
    · have := g1.far k z
      exact ⟨this.1, by omega, by rw [List.length_append]; omega⟩
    · have := g2.far k z
      exact ⟨by omega, by omega, by rw [List.length_append]; omega⟩
/-! ### onward -/
def S_onward (P C : Addr) : Nat → DSp
  | 0 => fun _ _ _ => False
  | f + 1 => fun ds O R => ∃ (tp : List Nat) (rs : List Row) (o : Option Pl) (w : WayS) (i : Nat), ds = [encPr P tp rs, encO o, encW C w] ∧ PrOk tp rs ∧ WayOk tp.length w ∧ w.done + (f + 1) ≤ 100 ∧ w.words.length + (f + 1) ≤ 1000 ∧ w.truths.length + (f + 1) ≤ 1000 ∧
    enough rs (f + 1) i o ∧ (9 + (f + 1)) * 2 ^ i ≤ 40000 ∧ ∀ (O' : Own) (h : Nat) (hs : List Nat), GoodH O O' h (onw tp.length tp rs (f + 1) o w) hs → R (.own h) O'
def N_onward : List Str := ["program", "place", "way", "row", "found"]
def R_onward (cProgram : Addr) (cWay : Addr) (n : Nat) : DS :=
  (dSeq (dIfS (dTest (dOp isD (dVar 1) (dC .non))) (dRet (dNew (dLst dNil))) dNext)
  (dSeq (dAsg (dMeth cProgram "row" (S_Program_row cProgram) (dVar 0) (dCons (dVar 1) dNil)) (dgName 3))
  (dSeq (dIfS (dTest (dOp eqD (dOp ixD (dVar 3) (dC (.int 0))) (dC (.str "put")))) (dRet (dCall (S_onward cProgram cWay n) (dCons (dVar 0) (dCons (dCall (S_behind cProgram 5) (dCons (dVar 0) (dCons (dVar 1) dNil))) (dCons (dMeth cWay "with_put" (S_Way_with_put cWay) (dVar 2) (dCons (dOp ixD (dVar 3) (dC (.int 1))) (dCons (dOp ixD (dVar 3) (dC (.int 2))) dNil))) dNil))))) dNext)
  (dSeq (dIfS (dTest (dOp eqD (dOp ixD (dVar 3) (dC (.int 0))) (dC (.str "if")))) (dSeq (dAsg (dCall (S_onward cProgram cWay n) (dCons (dVar 0) (dCons (dCall (S_into cProgram) (dCons (dVar 0) (dCons (dVar 1) (dCons (dC (.int 0)) dNil)))) (dCons (dMeth cWay "chosen" (S_Way_chosen cWay) (dVar 2) (dCons (dOp ixD (dVar 3) (dC (.int 1))) (dCons (dC (.bl true)) dNil))) dNil)))) (dgName 4))
  (dRet (dNew (dCat (dVar 4) (dCall (S_onward cProgram cWay n) (dCons (dVar 0) (dCons (dCall (S_into cProgram) (dCons (dVar 0) (dCons (dVar 1) (dCons (dC (.int 1)) dNil)))) (dCons (dMeth cWay "chosen" (S_Way_chosen cWay) (dVar 2) (dCons (dOp ixD (dVar 3) (dC (.int 1))) (dCons (dC (.bl false)) dNil))) dNil)))))))) dNext)
  (dSeq (dAsg (dMeth cWay "tasks_at" (S_Way_tasks_at cWay) (dVar 2) (dCons (dVar 1) (dCons (dGive (dCall (S_asked cProgram) (dCons (dVar 0) (dCons (dVar 1) dNil)))) dNil))) (dgName 4))
  (dSeq (dIfS (dTest (dOp eqD (dOp ixD (dVar 3) (dC (.int 0))) (dC (.str "loop")))) (dRet (dVar 4)) dNext)
  (dRet (dNew (dCat (dVar 4) (dCall (S_onward cProgram cWay n) (dCons (dVar 0) (dCons (dCall (S_behind cProgram 5) (dCons (dVar 0) (dCons (dVar 1) dNil))) (dCons (dMeth cWay "further" (S_Way_further cWay) (dVar 2) (dCons (dFrz (dLst (dCons (dCall S_put_in (dCons (dOp ixD (dVar 3) (dC (.int 1))) (dCons (dFld cWay (dVar 2) "boxes") dNil))) dNil))) dNil)) dNil)))))))))))))
theorem len_onward (P C : Addr) (n : Nat) (ds : List D) (O : Own) (R : D → Own → Prop) (h : S_onward P C (n + 1) ds O R) : ds.length = 3 := by obtain ⟨_, _, _, _, _, rfl, _⟩ := h; rfl
theorem WayOk.put {n : Nat} {w : WayS} {b : Nat} {s : Sm} (h : WayOk n w) (hs : SmW n s) (hd : w.done + 1 ≤ 100) : WayOk n (putW n w b s) := by
  have pb := putS_bd hs h.len h.n3 h.box (by omega)
  refine ⟨h.n1, h.n3, by show (w.boxes.set b _).length = n; rw [List.length_set]; exact h.len, fun x hx => ?_, hd, h.words, h.truths⟩
  rcases List.mem_or_eq_of_mem_set hx with z | z
  · obtain ⟨a1, a2, a3⟩ := h.box x z
    exact ⟨a1, fun y hy => (a2 y hy).mono (by show _ ≤ 10 * (w.done + 1 + 1); omega), a3.mono (by show _ ≤ 10 * (w.done + 1 + 1); omega)⟩
  · rw [z]
    exact ⟨pb.1, fun y hy => (pb.2.1 y hy).mono (by show _ ≤ 10 * (w.done + 1 + 1); omega), pb.2.2.mono (by show _ ≤ 10 * (w.done + 1 + 1); omega)⟩
theorem WayOk.more {n : Nat} {w : WayS} (h : WayOk n w) (tr : List Bool) (ws : List Sm) (hd : w.done + 1 ≤ 100) (h1 : tr.length ≤ 1000) (h2 : ws.length ≤ 1000) : WayOk n ⟨w.begin_, tr, w.done + 1, ws, w.boxes⟩ :=
  ⟨h.n1, h.n3, h.len, fun x hx => by
    obtain ⟨a1, a2, a3⟩ := h.box x hx
    exact ⟨a1, fun y hy => (a2 y hy).mono (by show _ ≤ 10 * (w.done + 1 + 1); omega), a3.mono (by show _ ≤ 10 * (w.done + 1 + 1); omega)⟩, hd, h2, h1⟩
theorem bnd1 {f i : Nat} (h : (9 + (f + 1)) * 2 ^ i ≤ 40000) : (9 + f) * 2 ^ i ≤ 40000 := Nat.le_trans (Nat.mul_le_mul_right _ (by omega)) h
theorem bnd2 {f i : Nat} (h : (9 + (f + 1)) * 2 ^ i ≤ 40000) : (9 + f) * 2 ^ (i - 1) ≤ 40000 := Nat.le_trans (Nat.mul_le_mul (by omega) (Nat.pow_le_pow_right (by decide) (by omega))) h
theorem boundsS_ok {tp : List Nat} {n : Nat} (h : ∀ t ∈ tp, t ≤ 9) : ∀ k, ∀ s ∈ boundsS tp n k, SmW n s
  | 0, s, hs => by cases hs
  | k + 1, s, hs => by
    rcases List.mem_append.mp hs with z | z
    · exact boundsS_ok h k s z
    · have t9 : tp.getD k 0 ≤ 9 := by
        rw [List.getD_eq_getElem?_getD]
        cases e : tp[k]? with
        | none => show 0 ≤ 9; decide
        | some t => exact h t (List.mem_of_getElem? e)
      rcases List.mem_cons.mp z with z | z
      · rw [z]; exact unitS_ok (by decide) (by decide) (by decide) (by decide)
      · rw [List.mem_singleton.mp z]; exact unitS_ok (by decide) (by decide) (by omega) (by omega)
theorem askedS_ok {tp : List Nat} {d : Nat} {r : Row} (h : TpOk tp) (ok : okR tp.length r d) : ∀ s ∈ askedS tp r, SmW tp.length s := by
  cases r with
  | put b s => intro x hx; cases hx
  | ite s a b => intro x hx; cases hx
  | say s => intro x hx; rw [List.mem_singleton.mp hx]; exact ok
  | loop s ws b =>
    intro x hx
    rcases List.mem_append.mp hx with z | z
    · exact ok.2.2.2.1 x z
    · exact boundsS_ok h.le _ x z
theorem sem_onward (P C : Addr) (f : Nat) (ds : List D) (O : Own) (R : D → Own → Prop) (h : S_onward P C (f + 1) ds O R) : R_onward P C f { nx := fun _ O' => R .non O', rt := R } (startD N_onward ds) O := by
  obtain ⟨tp, rs, o, w, i, rfl, ok, wok, hd, hw, ht, he, hb, h⟩ := h
  cases o with
  | none =>
    walk_at "w"
    exact h _ _ _ good_nil
  | some p =>
    unfold enough at he
    unfold onw at h
    cases e : rowP rs p with
    | none => rw [e] at he; exact he.elim
    | some r =>
      rw [e] at he h
      have okr := rowP_ok ok.row p r e
      have n3 := wok.n3
      walk_at "w"
      refine ⟨rfl, rfl, ?_⟩
      refine ⟨tp, rs, p.fst, p.more, r, by rw [encPl_eq]; rfl, by rw [rowP_at]; exact e, by rw [more_len]; exact okr.1, ?_⟩
      cases r with
      | put b s =>
        have okp := okr.2
        walk_at "w"
        refine strT ok_put ?_
        refine ⟨tp, rs, p, .put b s, rfl, ok, e, Nat.le_trans okr.1 (by decide), ?_⟩
        walk_at "w"
        refine ⟨rfl, rfl, ?_⟩
        refine ⟨tp.length, w, b, s, rfl, wok, okp.2, okp.1, ?_⟩
        cases f with
        | zero => exact he.elim
        | succ f => exact ⟨tp, rs, behindP rs p, putW tp.length w b s, i, rfl, ok, wok.put okp.2 (by omega), (by show w.done + 1 + (f + 1) ≤ 100; omega), (by show w.words.length + (f + 1) ≤ 1000; omega), (by show w.truths.length + (f + 1) ≤ 1000; omega), he, bnd1 hb, h⟩
      | say s =>
        have oks : SmW tp.length s := okr.2
        walk_at "w"
        refine strF ok_say ok_put (by decide +kernel) ?_
        walk_at "w"
        refine strF ok_say ok_if (by decide +kernel) ?_
        walk_at "w"
        refine ⟨rfl, rfl, ?_⟩
        refine ⟨tp, rs, p, .say s, rfl, ok, e, rfl, ?_⟩
        refine ⟨.lst (encSs [s]), top_take, .own (Nat.le_refl _) top_get (ResL.same (encSs_hd _)), ?_⟩
        refine ⟨tp.length, w, p.list, [s], rfl, wok, (fun x hx => by rw [List.mem_singleton.mp hx]; exact oks), (by show 1 ≤ 1000; decide), ?_⟩
        walk_at "w"
        refine strF ok_say ok_loop (by decide +kernel) ?_
        refine ⟨tp, rs, p, .say s, rfl, ok, e, Nat.le_trans okr.1 (by decide), ?_⟩
        walk_at "w"
        refine ⟨rfl, rfl, ?_⟩
        walk_at "w"
        refine ⟨rfl, ?_⟩
        refine ⟨s, w.boxes, tp.length, rfl, by rw [oks.1, wok.len], by rw [wok.len]; exact wok.n1, by omega, fun x hx => (oks.bd x hx).mono (by decide), wok.bx, ?_⟩
        refine ⟨w, [putS tp.length s w.boxes], rfl, (by show w.words.length + 1 ≤ _; omega), ?_⟩
        cases f with
        | zero => exact he.elim
        | succ f =>
          have hl := onw_len (n := tp.length) ok (f + 1) i (behindP rs p) (furtherW w [putS tp.length s w.boxes]) he
          refine ⟨tp, rs, behindP rs p, furtherW w [putS tp.length s w.boxes], i, rfl, ok, wok.more w.truths _ (by omega) (by omega) (by simp; omega), (by show w.done + 1 + (f + 1) ≤ 100; omega), (by show (w.words ++ [_]).length + (f + 1) ≤ 1000; simp; omega), (by show w.truths.length + (f + 1) ≤ 1000; omega), he, bnd1 hb, fun O2 h2 x2 g2 => ?_⟩
          have g1 := good_tasks (O := O) (ts := tasksAt tp.length w p.list 0 [s])
          walk_at "w"
          rw [good_up g1 g2]
          walk_at "w"
          rw [good_asL g2]
          have b2 := bnd1 hb
          refine ⟨?_, ?_⟩
          · rw [encH_length _ _ g1.many, encH_length _ _ g2.many, tasksAt_length]
            show 1 + _ ≤ 1000000
            omega
          · exact h _ _ _ (good_app g1 g2)
      | ite s a b =>
        obtain ⟨i0, e1, e2⟩ := he
        have oks : SmW tp.length s := okr.2.2.1
        walk_at "w"
        refine strF ok_if ok_put (by decide +kernel) ?_
        walk_at "w"
        refine strT ok_if ?_
        refine ⟨tp, rs, p, .ite s a b, 0, a, rfl, ok, e, rfl, ?_⟩
        walk_at "w"
        refine ⟨rfl, rfl, ?_⟩
        refine ⟨tp.length, w, s, true, rfl, wok, oks, ?_⟩
        cases f with
        | zero => exact e1.elim
        | succ f =>
          have hl1 := onw_len (n := tp.length) ok (f + 1) (i - 1) (intoP rs p (.ite s a b) 0 a) (chosenW tp.length w s true) e1
          have hl2 := onw_len (n := tp.length) ok (f + 1) (i - 1) (intoP rs p (.ite s a b) 1 b) (chosenW tp.length w s false) e2
          have b2 := bnd2 hb
          have wt : ∀ t, WayOk tp.length (chosenW tp.length w s t) := fun t => wok.more _ _ (by omega) (by simp; omega) (by simp; omega)
          have w1 : ∀ t, (chosenW tp.length w s t).words.length + (f + 1) ≤ 1000 := fun t => by show (w.words ++ [_]).length + (f + 1) ≤ 1000; simp; omega
          have w2 : ∀ t, (chosenW tp.length w s t).truths.length + (f + 1) ≤ 1000 := fun t => by show (w.truths ++ [_]).length + (f + 1) ≤ 1000; simp; omega
          refine ⟨tp, rs, intoP rs p (.ite s a b) 0 a, chosenW tp.length w s true, i - 1, rfl, ok, wt true, (by show w.done + 1 + (f + 1) ≤ 100; omega), w1 true, w2 true, e1, b2, fun O1 h1 x1 g1 => ?_⟩
          refine ⟨tp, rs, p, .ite s a b, 1, b, rfl, ok, e, rfl, ?_⟩
          walk_at "w"
          refine ⟨rfl, rfl, ?_⟩
          refine ⟨tp.length, w, s, false, rfl, wok, oks, ?_⟩
          refine ⟨tp, rs, intoP rs p (.ite s a b) 1 b, chosenW tp.length w s false, i - 1, rfl, ok, wt false, (by show w.done + 1 + (f + 1) ≤ 100; omega), w1 false, w2 false, e2, b2, fun O2 h2 x2 g2 => ?_⟩
          walk_at "w"
          rw [good_up g1 g2]
          walk_at "w"
          rw [good_asL g2]
          refine ⟨?_, ?_⟩
          · rw [encH_length _ _ g1.many, encH_length _ _ g2.many]
            omega
          · exact h _ _ _ (good_app g1 g2)
      | loop s ws body =>
        have lk := askedS_len ok.top okr.2
        walk_at "w"
        refine strF ok_loop ok_put (by decide +kernel) ?_
        walk_at "w"
        refine strF ok_loop ok_if (by decide +kernel) ?_
        walk_at "w"
        refine ⟨rfl, rfl, ?_⟩
        refine ⟨tp, rs, p, .loop s ws body, rfl, ok, e, rfl, ?_⟩
        refine ⟨.lst (encSs (askedS tp (.loop s ws body))), top_take, .own (Nat.le_refl _) top_get (ResL.same (encSs_hd _)), ?_⟩
        refine ⟨tp.length, w, p.list, askedS tp (.loop s ws body), rfl, wok, askedS_ok ok.top okr.2, by omega, ?_⟩
        walk_at "w"
        refine strT ok_loop ?_
        exact h _ _ _ good_tasks
end DL

/-! The tasks of a program. -/
namespace DL
open PySem L2
local macro_rules | `(tactic| walk_at "w") => `(tactic| conv => whnf)
def firstBoxes (n : Nat) : List Sm := (List.range n).map fun k => unitS n k 1 0
def N_first_boxes : List Str := ["program", "many", "box"]
def R_first_boxes (cProgram : Addr) : DS :=
  (dSeq (dAsg (dCall1 lenD (dCons (dFld cProgram (dVar 0) "tops") dNil)) (dgName 1))
  (dRet (dFrz (dLc (diR1 (dVar 1)) (dgName 2) dYes (dTup (dCons (dCall S_alone (dCons (dVar 1) (dCons (dVar 2) (dCons (dC (.int 1)) dNil)))) (dCons (dC (.int 0)) dNil))) [2]))))
def S_first_boxes (C : Addr) : DSp := fun ds O R => ∃ (tp : List Nat) (rs : List Row), ds = [encPr C tp rs] ∧ TpOk tp ∧ R (.lst (encSs (firstBoxes tp.length))) O
theorem len_first_boxes (C : Addr) (ds : List D) (O : Own) (R : D → Own → Prop) (h : S_first_boxes C ds O R) : ds.length = 1 := by obtain ⟨_, _, rfl, _⟩ := h; rfl
theorem sem_first_boxes (C : Addr) (ds : List D) (O : Own) (R : D → Own → Prop) (h : S_first_boxes C ds O R) : R_first_boxes C { nx := fun _ O' => Pure O R .non O', rt := Pure O R } (startD N_first_boxes ds) O := by
  obtain ⟨tp, rs, rfl, ok, h⟩ := h
  have t3 := ok.few
  walk_at "w"
  refine ⟨rfl, ?_⟩
  walk_at "w"
  rw [encN_length]
  refine ⟨by omega, ?_⟩
  rw [Int.toNat_natCast]
  refine lc_rng (fun k => encS (unitS tp.length k 1 0)) trivial (by omega) (fun k hk Q q => ?_) ?_
  · walk_at "w"
    exact ⟨tp.length, k, 1, rfl, by omega, hk, q⟩
  · have e : (List.range tp.length).map (fun k => encS (unitS tp.length k 1 0)) = encSs (firstBoxes tp.length) := by unfold encSs firstBoxes; rw [List.map_map]; rfl
    rw [e]
    exact Pure.same (.lst (encSs_hd _)) h
def N_Program_loops : List Str := ["self"]
def R_Program_loops (cProgram : Addr) : DS :=
  (dRet (dCall (S_loops_in 4) (dCons (dFld cProgram (dVar 0) "rows") (dCons (dTup dNil) dNil))))
def S_Program_loops (C : Addr) : DSp := fun ds O R => ∃ (tp : List Nat) (rs : List Row), ds = [encPr C tp rs] ∧ PrOk tp rs ∧ R (.lst (encPcs (loopsRs [] 0 rs))) O
theorem len_Program_loops (C : Addr) (ds : List D) (O : Own) (R : D → Own → Prop) (h : S_Program_loops C ds O R) : ds.length = 1 := by obtain ⟨_, _, rfl, _⟩ := h; rfl
theorem sem_Program_loops (C : Addr) (ds : List D) (O : Own) (R : D → Own → Prop) (h : S_Program_loops C ds O R) : R_Program_loops C { nx := fun _ O' => Pure O R .non O', rt := Pure O R } (startD N_Program_loops ds) O := by
  obtain ⟨tp, rs, rfl, ok, h⟩ := h
  have fw := ok.few
  walk_at "w"
  refine ⟨rfl, ?_⟩
  walk_at "w"
  exact ⟨rs, tp.length, [], rfl, ok.row, by omega, by decide, Pure.same (.lst (encPcs_hd _)) h⟩
/-! ### from_loop -/
def loopW (tp : List Nat) (p : Pl) (ws : List Sm) : WayS := ⟨p.list, [], 0, ws, firstBoxes tp.length⟩
def fromLoop (tp : List Nat) (rs : List Row) (p : Pl) (s : Sm) (ws : List Sm) (b : List Row) : List Tk :=
  onw tp.length tp rs 10 (intoP rs p (.loop s ws b) 0 b) (chosenW tp.length (loopW tp p ws) s true) ++ onw tp.length tp rs 10 (behindP rs p) (chosenW tp.length (loopW tp p ws) s false)
theorem firstBoxes_ok (n : Nat) : ∀ b ∈ firstBoxes n, b.1.length = n ∧ BdL 10 b.1 ∧ Bd 10 b.2 := fun b hb => by
  obtain ⟨k, _, rfl⟩ := List.mem_map.mp hb
  have u := unitS_ok (n := n) (b := k) (x := 1) (m := 0) (by decide) (by decide) (by decide) (by decide)
  exact ⟨u.1, fun x hx => Bd.of 9 (by have := u.2.1 x hx; omega) (by decide), Bd.of 99 (by have := u.2.2; omega) (by decide)⟩
theorem startW_ok {tp : List Nat} (h : TpOk tp) (pl : List Nat) (ws : List Sm) (hw : ws.length ≤ 3) : WayOk tp.length ⟨pl, [], 0, ws, firstBoxes tp.length⟩ :=
  ⟨h.pos, h.few, by unfold firstBoxes; simp, firstBoxes_ok _, Nat.zero_le _, by show ws.length ≤ 1000; omega, Nat.zero_le _⟩
def S_from_loop (P C : Addr) : DSp := fun ds O R => ∃ (tp : List Nat) (rs : List Row) (p : Pl) (s : Sm) (ws : List Sm) (b : List Row), ds = [encPr P tp rs, encPc p.list] ∧ PrOk tp rs ∧ rowP rs p = some (.loop s ws b) ∧
  enough rs 10 8 (intoP rs p (.loop s ws b) 0 b) ∧ enough rs 10 8 (behindP rs p) ∧ ∀ (O' : Own) (h : Nat) (hs : List Nat), GoodH O O' h (fromLoop tp rs p s ws b) hs → R (.own h) O'
def N_from_loop : List Str := ["program", "place", "row", "way", "found"]
def R_from_loop (cProgram : Addr) (cWay : Addr) : DS :=
  (dSeq (dAsg (dMeth cProgram "row" (S_Program_row cProgram) (dVar 0) (dCons (dVar 1) dNil)) (dgName 2))
  (dSeq (dAsg (dGive (dMake cWay (S_Way_init cWay) (dCons (dVar 1) (dCons (dTup dNil) (dCons (dC (.int 0)) (dCons (dFrz (dList (dOp ixD (dVar 2) (dC (.int 2))))) (dCons (dCall (S_first_boxes cProgram) (dCons (dVar 0) dNil)) dNil))))))) (dgName 3))
  (dSeq (dAsg (dCall (S_onward cProgram cWay 10) (dCons (dVar 0) (dCons (dCall (S_into cProgram) (dCons (dVar 0) (dCons (dVar 1) (dCons (dC (.int 0)) dNil)))) (dCons (dMeth cWay "chosen" (S_Way_chosen cWay) (dVar 3) (dCons (dOp ixD (dVar 2) (dC (.int 1))) (dCons (dC (.bl true)) dNil))) dNil)))) (dgName 4))
  (dRet (dNew (dCat (dVar 4) (dCall (S_onward cProgram cWay 10) (dCons (dVar 0) (dCons (dCall (S_behind cProgram 5) (dCons (dVar 0) (dCons (dVar 1) dNil))) (dCons (dMeth cWay "chosen" (S_Way_chosen cWay) (dVar 3) (dCons (dOp ixD (dVar 2) (dC (.int 1))) (dCons (dC (.bl false)) dNil))) dNil))))))))))
theorem len_from_loop (P C : Addr) (ds : List D) (O : Own) (R : D → Own → Prop) (h : S_from_loop P C ds O R) : ds.length = 2 := by obtain ⟨_, _, _, _, _, _, rfl, _⟩ := h; rfl
theorem sem_from_loop (P C : Addr) (ds : List D) (O : Own) (R : D → Own → Prop) (h : S_from_loop P C ds O R) : R_from_loop P C { nx := fun _ O' => R .non O', rt := R } (startD N_from_loop ds) O := by
  obtain ⟨tp, rs, p, s, ws, b, rfl, ok, e, e1, e2, h⟩ := h
  have okr := rowP_ok ok.row p _ e
  have oks : SmW tp.length s := okr.2.2.1
  have w3 := okr.2.2.2.1
  have wok := startW_ok ok.top p.list ws w3
  have hl1 := onw_len (n := tp.length) ok 10 8 (intoP rs p (.loop s ws b) 0 b) (chosenW tp.length (loopW tp p ws) s true) e1
  have hl2 := onw_len (n := tp.length) ok 10 8 (behindP rs p) (chosenW tp.length (loopW tp p ws) s false) e2
  walk_at "w"
  refine ⟨rfl, rfl, ?_⟩
  refine ⟨tp, rs, p.fst, p.more, .loop s ws b, by rw [encPl_eq]; rfl, by rw [rowP_at]; exact e, by rw [more_len]; exact okr.1, ?_⟩
  walk_at "w"
  refine ⟨tp, rs, rfl, ok.top, ?_⟩
  walk_at "w"
  refine ⟨O.length, _, _, _, _, _, rfl, top_get, rfl, ?_⟩
  rw [top_set]
  refine way_made (w := loopW tp p ws) ?_
  refine ⟨tp, rs, p, .loop s ws b, 0, b, rfl, ok, e, rfl, ?_⟩
  walk_at "w"
  refine ⟨rfl, rfl, ?_⟩
  refine ⟨tp.length, loopW tp p ws, s, true, rfl, wok, oks, ?_⟩
  have wt : ∀ t, WayOk tp.length (chosenW tp.length (loopW tp p ws) s t) := fun t => wok.more _ _ (by show 0 + 1 ≤ 100; decide) (by show 0 + 1 ≤ 1000; decide) (by show (ws ++ [_]).length ≤ 1000; simp; omega)
  have w1 : ∀ t, (chosenW tp.length (loopW tp p ws) s t).words.length + (9 + 1) ≤ 1000 := fun t => by show (ws ++ [_]).length + (9 + 1) ≤ 1000; simp; omega
  refine ⟨tp, rs, intoP rs p (.loop s ws b) 0 b, chosenW tp.length (loopW tp p ws) s true, 8, rfl, ok, wt true, (by show 0 + 1 + (9 + 1) ≤ 100; decide), w1 true, (by show 0 + 1 + (9 + 1) ≤ 1000; decide), e1, by decide, fun O1 h1 x1 g1 => ?_⟩
  refine ⟨tp, rs, p, .loop s ws b, rfl, ok, e, Nat.le_trans okr.1 (by decide), ?_⟩
  walk_at "w"
  refine ⟨rfl, rfl, ?_⟩
  refine ⟨tp.length, loopW tp p ws, s, false, rfl, wok, oks, ?_⟩
  refine ⟨tp, rs, behindP rs p, chosenW tp.length (loopW tp p ws) s false, 8, rfl, ok, wt false, (by show 0 + 1 + (9 + 1) ≤ 100; decide), w1 false, (by show 0 + 1 + (9 + 1) ≤ 1000; decide), e2, by decide, fun O2 h2 x2 g2 => ?_⟩
  walk_at "w"
  rw [good_up g1 g2]
  walk_at "w"
  rw [good_asL g2]
  refine ⟨?_, ?_⟩
  · rw [encH_length _ _ g1.many, encH_length _ _ g2.many]
    exact Nat.le_trans (Nat.add_le_add hl1 hl2) (by decide)
  · exact h _ _ _ (good_app g1 g2)
/-! ### tasks -/
def onlyLoops (rs : List Row) (ps : List Pl) : Prop := ∀ p ∈ ps, ∃ s ws b, rowP rs p = some (.loop s ws b) ∧ enough rs 10 8 (intoP rs p (.loop s ws b) 0 b) ∧ enough rs 10 8 (behindP rs p)
def fromP (tp : List Nat) (rs : List Row) (p : Pl) : List Tk := match rowP rs p with
  | some (.loop s ws b) => fromLoop tp rs p s ws b
  | _ => []
def firstT (tp : List Nat) (rs : List Row) : List Tk := onw tp.length tp rs 10 (firstP rs) ⟨[], [], 0, [], firstBoxes tp.length⟩
def tasksS (tp : List Nat) (rs : List Row) (ps : List Pl) : List Tk := firstT tp rs ++ ps.flatMap (fromP tp rs)
def S_tasks (P C : Addr) : DSp := fun ds O R => ∃ (tp : List Nat) (rs : List Row) (ps : List Pl), ds = [encPr P tp rs] ∧ PrOk tp rs ∧ loopsRs [] 0 rs = ps.map Pl.list ∧ onlyLoops rs ps ∧ enough rs 10 9 (firstP rs) ∧ (tasksS tp rs ps).length ≤ 1000000 ∧
  ∀ (O' : Own) (h : Nat) (hs : List Nat), GoodH O O' h (tasksS tp rs ps) hs → R (.own h) O'
def N_tasks : List Str := ["program", "found", "place"]
def R_tasks (cProgram : Addr) (cWay : Addr) : DS :=
  (dSeq (dAsg (dCall (S_onward cProgram cWay 10) (dCons (dVar 0) (dCons (dCall (S_first_place cProgram) (dCons (dVar 0) dNil)) (dCons (dGive (dMake cWay (S_Way_init cWay) (dCons (dTup dNil) (dCons (dTup dNil) (dCons (dC (.int 0)) (dCons (dFrz (dLst dNil)) (dCons (dCall (S_first_boxes cProgram) (dCons (dVar 0) dNil)) dNil))))))) dNil)))) (dgName 1))
  (dSeq (dFor (diL (dMeth cProgram "loops" (S_Program_loops cProgram) (dVar 0) dNil)) (dgName 2) (dDrop (dExt (dVar 1) (dCall (S_from_loop cProgram cWay) (dCons (dVar 0) (dCons (dVar 2) dNil))))))
  (dRet (dVar 1))))
theorem len_tasks (P C : Addr) (ds : List D) (O : Own) (R : D → Own → Prop) (h : S_tasks P C ds O R) : ds.length = 1 := by obtain ⟨_, _, _, rfl, _⟩ := h; rfl
/-- a list of one's own made longer by another one -/
theorem good_ext {O O1 O2 : Own} {h1 h2 : Nat} {t1 t2 : List Tk} {x1 x2 : List Nat} (g1 : GoodH O O1 h1 t1 x1) (g2 : GoodH O1 O2 h2 t2 x2) : O2[h1]? = some (some (.lst (encH t1 x1))) ∧ GoodH O (O2.set h1 (some (.lst (encH t1 x1 ++ encH t2 x2)))) h1 (t1 ++ t2) (x1 ++ x2) := by
  have l1 := g1.len
  have l2 := g2.len
  have hl : h1 < O1.length := (List.getElem?_eq_some_iff.mp g1.at_).1
  have at2 : O2[h1]? = some (some (.lst (encH t1 x1))) := by rw [pre_get' g2.pre hl, g1.at_]
  have g0 := g1.ge
  refine ⟨at2, ?_, by rw [List.length_set]; omega, by rw [List.getElem?_set_self (by omega), encH_app _ _ _ _ g1.many], g0, by rw [List.length_append, List.length_append, g1.many, g2.many], fun i t k a b => ?_, ?_, fun k hk => ?_⟩
  · rw [List.take_set, List.set_eq_of_length_le (by rw [List.length_take]; omega)]
    have e : O2.take O.length = (O2.take O1.length).take O.length := by rw [List.take_take, Nat.min_eq_left l1]
    rw [e, g2.pre, g1.pre]
  · by_cases q : i < t1.length
    · rw [List.getElem?_append_left q] at a
      rw [List.getElem?_append_left (by rw [g1.many]; exact q)] at b
      have w := g1.words i t k a b
      have kl : k < O1.length := (List.getElem?_eq_some_iff.mp w).1
      have kn := (g1.far k (List.mem_of_getElem? b)).2.1
      rw [List.getElem?_set_ne (fun z => kn z.symm), pre_get' g2.pre kl]
      exact w
    · rw [List.getElem?_append_right (by omega)] at a
      rw [List.getElem?_append_right (by rw [g1.many]; omega), g1.many] at b
      have w := g2.words _ t k a b
      have kf := g2.far k (List.mem_of_getElem? b)
      rw [List.getElem?_set_ne (by omega)]
      exact w
  · rw [List.nodup_append]
    refine ⟨g1.nd, g2.nd, fun a ha b hb e => ?_⟩
    have := (g1.far a ha).2.2
    have := (g2.far b hb).1
    omega
  · rcases List.mem_append.mp hk with z | z
    · have := g1.far k z
      exact ⟨this.1, this.2.1, by rw [List.length_set]; omega⟩
    · have := g2.far k z
      exact ⟨by omega, by omega, by rw [List.length_set]; omega⟩
theorem sem_tasks (P C : Addr) (ds : List D) (O : Own) (R : D → Own → Prop) (h : S_tasks P C ds O R) : R_tasks P C { nx := fun _ O' => R .non O', rt := R } (startD N_tasks ds) O := by
  obtain ⟨tp, rs, ps, rfl, ok, hps, hol, hen, hlen, h⟩ := h
  refine ⟨tp, rs, rfl, ok, ?_⟩
  walk_at "w"
  refine ⟨tp, rs, rfl, ok.top, ?_⟩
  walk_at "w"
  refine ⟨O.length, _, _, _, _, _, rfl, top_get, rfl, ?_⟩
  rw [top_set]
  refine way_made (w := ⟨[], [], 0, [], firstBoxes tp.length⟩) ?_
  refine ⟨tp, rs, firstP rs, ⟨[], [], 0, [], firstBoxes tp.length⟩, 9, rfl, ok, startW_ok ok.top [] [] (by decide), (by show 0 + (9 + 1) ≤ 100; decide), (by show 0 + (9 + 1) ≤ 1000; decide), (by show 0 + (9 + 1) ≤ 1000; decide), hen, by decide, fun O1 h1 x1 g1 => ?_⟩
  walk_at "w"
  refine ⟨rfl, rfl, ?_⟩
  refine ⟨tp, rs, rfl, ok, ?_⟩
  walk_at "w"
  have el : encPcs (loopsRs [] 0 rs) = ps.map fun p => encPc p.list := by rw [hps]; unfold encPcs; rw [List.map_map]; rfl
  rw [el]
  have g1' : GoodH O O1 h1 (firstT tp rs ++ (ps.take 0).flatMap (fromP tp rs)) x1 := by rw [List.take_zero]; show GoodH O O1 h1 (firstT tp rs ++ []) x1; rw [List.append_nil]; exact g1
  refine forL_rngI (fun p => encPc p.list) ps (fun j δ O' => ∃ hs, GoodH O O' h1 (firstT tp rs ++ (ps.take j).flatMap (fromP tp rs)) hs ∧ ∃ c, δ = [some (encPr P tp rs), some (.own h1), c]) ⟨x1, g1', none, rfl⟩ (fun _ _ _ _ => rfl) ?_ ?_
  · rintro j p δ O' nx hj hp ⟨hs, g, c, rfl⟩ hx
    obtain ⟨s, ws, b, e, e1, e2⟩ := hol p (List.mem_of_getElem? hp)
    have ef : fromP tp rs p = fromLoop tp rs p s ws b := by unfold fromP; rw [e]
    have tk : ps.take (j + 1) = ps.take j ++ [p] := by
      have hj' : j < ps.length := hj
      rw [List.take_succ_eq_append_getElem hj']
      have : ps[j] = p := by rw [List.getElem?_eq_getElem hj'] at hp; exact Option.some.inj hp
      rw [this]
    have hsum : (firstT tp rs ++ (ps.take (j + 1)).flatMap (fromP tp rs)).length ≤ 1000000 := by
      refine Nat.le_trans ?_ hlen
      unfold tasksS
      rw [List.length_append, List.length_append]
      have : (ps.flatMap (fromP tp rs)).length = ((ps.take (j + 1)).flatMap (fromP tp rs)).length + ((ps.drop (j + 1)).flatMap (fromP tp rs)).length := by
        rw [← List.length_append, ← List.flatMap_append, List.take_append_drop]
      omega
    have eT : firstT tp rs ++ (ps.take (j + 1)).flatMap (fromP tp rs) = firstT tp rs ++ (ps.take j).flatMap (fromP tp rs) ++ fromLoop tp rs p s ws b := by
      rw [tk, List.flatMap_append, List.append_assoc]
      show _ ++ (_ ++ (fromP tp rs p ++ [])) = _
      rw [List.append_nil, ef]
    walk_at "w"
    rw [good_asL g]
    walk_at "w"
    refine ⟨tp, rs, p, s, ws, b, rfl, ok, e, e1, e2, fun O2 h2 x2 g2 => ?_⟩
    obtain ⟨at2, g3⟩ := good_ext g g2
    walk_at "w"
    rw [at2]
    walk_at "w"
    rw [good_asL g2]
    refine ⟨?_, ?_⟩
    · rw [encH_length _ _ g.many, encH_length _ _ g2.many, ← List.length_append, ← eT]
      exact hsum
    · refine hx _ _ ⟨hs ++ x2, ?_, _, rfl⟩
      rw [eT]
      exact g3
  · rintro δ O' ⟨hs, g, c, rfl⟩
    rw [List.take_of_length_le (Nat.le_refl _)] at g
    exact h _ _ _ g
end DL

/-! Enough steps; the places of the loops. -/
namespace DL
open PySem L2
mutual
def plR : Pl → Row → List Pl
  | _, .put _ _ => []
  | _, .say _ => []
  | p, .ite _ a b => plRs (fun j => .sub p 0 j) 0 a ++ plRs (fun j => .sub p 1 j) 0 b
  | p, .loop _ _ body => p :: plRs (fun j => .sub p 0 j) 0 body
def plRs : (Nat → Pl) → Nat → List Row → List Pl
  | _, _, [] => []
  | mk, k, r :: rs => plR (mk k) r ++ plRs mk (k + 1) rs
end
mutual
theorem plR_list : ∀ (r : Row) (p : Pl) (l : List Nat), p.list = l → (plR p r).map Pl.list = loopsR l r
  | .put _ _, _, _, _ => rfl
  | .say _, _, _, _ => rfl
  | .ite _ a b, p, l, e => by
    show (plRs (fun j => .sub p 0 j) 0 a ++ plRs (fun j => .sub p 1 j) 0 b).map Pl.list = loopsRs (l ++ [0]) 0 a ++ loopsRs (l ++ [1]) 0 b
    rw [List.map_append, plRs_list a _ (l ++ [0]) 0 (fun j => by show p.list ++ [0, j] = _; rw [e, List.append_assoc]; rfl), plRs_list b _ (l ++ [1]) 0 (fun j => by show p.list ++ [1, j] = _; rw [e, List.append_assoc]; rfl)]
  | .loop _ _ b, p, l, e => by
    show p.list :: (plRs (fun j => .sub p 0 j) 0 b).map Pl.list = l :: loopsRs (l ++ [0]) 0 b
    rw [plRs_list b _ (l ++ [0]) 0 (fun j => by show p.list ++ [0, j] = _; rw [e, List.append_assoc]; rfl), e]
theorem plRs_list : ∀ (rs : List Row) (mk : Nat → Pl) (l : List Nat) (k : Nat), (∀ j, (mk j).list = l ++ [j]) → (plRs mk k rs).map Pl.list = loopsRs l k rs
  | [], _, _, _, _ => rfl
  | r :: rs, mk, l, k, e => by
    show (plR (mk k) r ++ plRs mk (k + 1) rs).map Pl.list = loopsR (l ++ [k]) r ++ loopsRs l (k + 1) rs
    rw [List.map_append, plR_list r (mk k) (l ++ [k]) (e k), plRs_list rs mk l (k + 1) e]
end
mutual
theorem plR_row (rs0 : List Row) : ∀ (r : Row) (p : Pl), rowP rs0 p = some r → ∀ q ∈ plR p r, ∃ s ws b, rowP rs0 q = some (.loop s ws b)
  | .put _ _, _, _, _, h => by cases h
  | .say _, _, _, _, h => by cases h
  | .ite s a b, p, e, q, h => by
    rcases List.mem_append.mp h with z | z
    · exact plRs_row rs0 a _ 0 (fun j => by show (rowP rs0 p).bind _ = _; rw [e]; rw [Nat.zero_add]; rfl) q z
    · exact plRs_row rs0 b _ 0 (fun j => by show (rowP rs0 p).bind _ = _; rw [e]; rw [Nat.zero_add]; rfl) q z
  | .loop s ws b, p, e, q, h => by
    rcases List.mem_cons.mp h with z | z
    · rw [z]; exact ⟨s, ws, b, e⟩
    · exact plRs_row rs0 b _ 0 (fun j => by show (rowP rs0 p).bind _ = _; rw [e]; rw [Nat.zero_add]; rfl) q z
theorem plRs_row (rs0 : List Row) : ∀ (rs : List Row) (mk : Nat → Pl) (k : Nat), (∀ j, rowP rs0 (mk (k + j)) = rs[j]?) → ∀ q ∈ plRs mk k rs, ∃ s ws b, rowP rs0 q = some (.loop s ws b)
  | [], _, _, _, _, h => by cases h
  | r :: rs, mk, k, e, q, h => by
    rcases List.mem_append.mp h with z | z
    · exact plR_row rs0 r (mk k) (e 0) q z
    · exact plRs_row rs0 rs mk (k + 1) (fun j => by have := e (j + 1); rw [show k + 1 + j = k + (j + 1) from by omega]; exact this) q z
end
/-! what is left behind a place -/
def remB (rs : List Row) : Pl → Nat
  | .top i => cnts (rs.drop (i + 1))
  | .sub p b j => match rowP rs p with
    | some r => cnts ((((innerR r)[b]?).getD []).drop (j + 1)) + (if isLoop r then 0 else remB rs p)
    | none => 0
theorem cnts_drop {rs : List Row} {k : Nat} {r : Row} (h : rs[k]? = some r) : cntR r + cnts (rs.drop (k + 1)) = cnts (rs.drop k) := by
  obtain ⟨hk, e⟩ := List.getElem?_eq_some_iff.mp h
  rw [List.drop_eq_getElem_cons hk, e]
  rfl
theorem remB_sub {rs : List Row} {p : Pl} {b j : Nat} {r0 : Row} {x : List Row} (e : rowP rs p = some r0) (e2 : (innerR r0)[b]? = some x) : remB rs (.sub p b j) = cnts (x.drop (j + 1)) + (if isLoop r0 then 0 else remB rs p) := by
  show (match rowP rs p with | some r => cnts ((((innerR r)[b]?).getD []).drop (j + 1)) + (if isLoop r then 0 else remB rs p) | none => 0) = _
  rw [e]
  show cnts ((((innerR r0)[b]?).getD []).drop (j + 1)) + _ = _
  rw [e2]
  rfl
theorem rowP_sub {rs : List Row} {p : Pl} {b j : Nat} {r : Row} (h : rowP rs (.sub p b j) = some r) : ∃ r0 x, rowP rs p = some r0 ∧ (innerR r0)[b]? = some x ∧ x[j]? = some r := by
  have h' : ((rowP rs p).bind fun r => ((innerR r)[b]?).bind fun x => x[j]?) = some r := h
  cases e : rowP rs p with
  | none => rw [e] at h'; cases h'
  | some r0 =>
    rw [e] at h'
    have h' : ((innerR r0)[b]?).bind (fun x => x[j]?) = some r := h'
    cases e2 : (innerR r0)[b]? with
    | none => rw [e2] at h'; cases h'
    | some x => rw [e2] at h'; exact ⟨r0, x, rfl, e2, h'⟩
theorem behind_sub {rs : List Row} {p : Pl} {b j : Nat} {r0 : Row} {x : List Row} (e : rowP rs p = some r0) (e2 : (innerR r0)[b]? = some x) : behindP rs (.sub p b j) = (if j + 1 < x.length then some (Pl.sub p b (j + 1)) else if isLoop r0 then some p else behindP rs p : Option Pl) := by
  show (match rowP rs p with | some r => (if j + 1 < (((innerR r)[b]?).getD []).length then some (Pl.sub p b (j + 1)) else if isLoop r then some p else behindP rs p : Option Pl) | none => none) = _
  rw [e]
  show (if j + 1 < (((innerR r0)[b]?).getD []).length then some (Pl.sub p b (j + 1)) else if isLoop r0 then some p else behindP rs p : Option Pl) = _
  rw [e2]
  rfl
theorem enough_loop {rs : List Row} {f i : Nat} {p : Pl} {r : Row} (e : rowP rs p = some r) (h : isLoop r = true) (hf : 1 ≤ f) : enough rs f i (some p) := by
  obtain ⟨g, rfl⟩ : ∃ g, f = g + 1 := ⟨f - 1, by omega⟩
  unfold enough
  rw [e]
  cases r with
  | loop s ws b => exact trivial
  | _ => cases h
def EnE (rs : List Row) (m : Nat) : Prop := ∀ (p : Pl) (r : Row) (i f : Nat), rowP rs p = some r → cntR r + remB rs p ≤ m → m ≤ i → m + 1 ≤ f → enough rs f i (some p)
def EnB (rs : List Row) (m : Nat) : Prop := ∀ (p : Pl) (r : Row) (i f : Nat), rowP rs p = some r → remB rs p ≤ m → m ≤ i → m + 1 ≤ f → enough rs f i (behindP rs p)
theorem en_none {rs : List Row} {f i : Nat} (hf : 1 ≤ f) : enough rs f i none := by
  obtain ⟨g, rfl⟩ : ∃ g, f = g + 1 := ⟨f - 1, by omega⟩
  exact trivial
theorem enB_of {rs : List Row} {m : Nat} (E : EnE rs m) : EnB rs m := by
  intro p
  induction p with
  | top k =>
    intro r i f hr h1 h2 h3
    show enough rs f i (if k + 1 < rs.length then some (.top (k + 1)) else none)
    by_cases q : k + 1 < rs.length
    · rw [if_pos q]
      have g : rs[k + 1]? = some rs[k + 1] := List.getElem?_eq_getElem q
      refine E (.top (k + 1)) _ i f g ?_ h2 h3
      have := cnts_drop g
      have h1' : cnts (rs.drop (k + 1)) ≤ m := h1
      show cntR _ + cnts (rs.drop (k + 1 + 1)) ≤ m
      omega
    · rw [if_neg q]
      exact en_none (by omega)
  | sub p b j ih =>
    intro r i f hr h1 h2 h3
    obtain ⟨r0, x, e, e2, e3⟩ := rowP_sub hr
    rw [behind_sub e e2]
    rw [remB_sub e e2] at h1
    by_cases q : j + 1 < x.length
    · rw [if_pos q]
      have g : x[j + 1]? = some x[j + 1] := List.getElem?_eq_getElem q
      have hq : rowP rs (.sub p b (j + 1)) = some x[j + 1] := by
        show ((rowP rs p).bind fun r => ((innerR r)[b]?).bind fun x => x[j + 1]?) = _
        rw [e]
        show ((innerR r0)[b]?).bind (fun x => x[j + 1]?) = _
        rw [e2]
        exact g
      refine E _ _ i f hq ?_ h2 h3
      have := cnts_drop g
      rw [remB_sub e e2]
      omega
    · rw [if_neg q]
      by_cases l : isLoop r0 = true
      · rw [if_pos l]
        exact enough_loop e l (by omega)
      · rw [if_neg l]
        rw [if_neg l] at h1
        exact ih r0 i f e (by omega) h2 h3
theorem enE_all (rs : List Row) : ∀ m, EnE rs m
  | 0 => fun p r i f hr h1 _ _ => by have := cntR_pos r; omega
  | m + 1 => fun p r i f hr h1 h2 h3 => by
    have B := enB_of (enE_all rs m)
    have E := enE_all rs m
    obtain ⟨g, rfl⟩ : ∃ g, f = g + 1 := ⟨f - 1, by omega⟩
    have c1 := cntR_pos r
    unfold enough
    rw [hr]
    cases r with
    | put b s => exact B p _ i g hr (by omega) (by omega) (by omega)
    | say s => exact B p _ i g hr (by omega) (by omega) (by omega)
    | loop s ws b => exact trivial
    | ite s a b =>
      have hc : cntR (.ite s a b) = 1 + cnts a + cnts b := rfl
      have into : ∀ (k : Nat) (x : List Row), (innerR (.ite s a b))[k]? = some x → cnts x + 1 ≤ cntR (.ite s a b) → enough rs g (i - 1) (intoP rs p (.ite s a b) k x) := fun k x hx hc2 => by
        unfold intoP
        cases x with
        | nil => exact B p _ (i - 1) g hr (by omega) (by omega) (by omega)
        | cons r1 x =>
          have hq : rowP rs (.sub p k 0) = some r1 := by
            show ((rowP rs p).bind fun r => ((innerR r)[k]?).bind fun x => x[0]?) = _
            rw [hr]
            show ((innerR (.ite s a b))[k]?).bind (fun x => x[0]?) = _
            rw [hx]
            rfl
          refine E (.sub p k 0) r1 (i - 1) g hq ?_ (by omega) (by omega)
          rw [remB_sub hr hx]
          show cntR r1 + (cnts x + remB rs p) ≤ m
          have : cnts (r1 :: x) = cntR r1 + cnts x := rfl
          omega
      exact ⟨by omega, into 0 a rfl (by omega), into 1 b rfl (by omega)⟩
theorem rem_le (rs : List Row) : ∀ (p : Pl) (r : Row), rowP rs p = some r → cntR r + remB rs p ≤ cnts rs
  | .top k, r, h => by
    have h' : rs[k]? = some r := h
    have := cnts_drop h'
    have h2 := cnts_append (rs.take k) (rs.drop k)
    rw [List.take_append_drop] at h2
    show cntR r + cnts (rs.drop (k + 1)) ≤ _
    omega
  | .sub p b j, r, h => by
    obtain ⟨r0, x, e, e2, e3⟩ := rowP_sub h
    have ih := rem_le rs p r0 e
    rw [remB_sub e e2]
    have h1 := cnts_drop e3
    have h2 := cnts_append (x.take j) (x.drop j)
    rw [List.take_append_drop] at h2
    have cx : cnts x + 1 ≤ cntR r0 := by
      have : ∀ l : List (List Row), x ∈ l → cnts x ≤ sumC l := by
        intro l
        induction l with
        | nil => intro z; cases z
        | cons y l ih =>
          intro z
          show cnts x ≤ cnts y + sumC l
          rcases List.mem_cons.mp z with z | z
          · rw [z]; omega
          · have := ih z; omega
      have := this _ (List.mem_of_getElem? e2)
      have := innerR_cnt r0
      omega
    split <;> omega
theorem enough_first {rs : List Row} (h : cnts rs ≤ 9) : enough rs 10 9 (firstP rs) := by
  unfold firstP
  cases rs with
  | nil => exact en_none (by decide)
  | cons r rs =>
    have hr : rowP (r :: rs) (.top 0) = some r := rfl
    refine enE_all _ 9 (.top 0) r 9 10 hr ?_ (by decide) (by decide)
    have := rem_le (r :: rs) (.top 0) r hr
    omega
theorem enough_loops {rs : List Row} (h : cnts rs ≤ 9) : onlyLoops rs (plRs Pl.top 0 rs) := fun p hp => by
  obtain ⟨s, ws, b, e⟩ := plRs_row rs rs Pl.top 0 (fun j => by rw [Nat.zero_add]; rfl) p hp
  have hr := rem_le rs p _ e
  have hc : cntR (.loop s ws b) = 1 + cnts b := rfl
  refine ⟨s, ws, b, e, ?_, enB_of (enE_all rs 8) p _ 8 10 e (by omega) (by decide) (by decide)⟩
  unfold intoP
  cases b with
  | nil => exact enough_loop e rfl (by decide)
  | cons r1 x =>
    have hq : rowP rs (.sub p 0 0) = some r1 := by
      show ((rowP rs p).bind fun r => ((innerR r)[0]?).bind fun x => x[0]?) = _
      rw [e]
      rfl
    refine enE_all rs 8 (.sub p 0 0) r1 8 10 hq ?_ (by decide) (by decide)
    rw [remB_sub (x := r1 :: x) e rfl]
    show cntR r1 + (cnts x + 0) ≤ 8
    have : cnts (r1 :: x) = cntR r1 + cnts x := rfl
    omega
theorem places_eq (rs : List Row) : loopsRs [] 0 rs = (plRs Pl.top 0 rs).map Pl.list := (plRs_list rs Pl.top [] 0 fun j => rfl).symm
theorem tasks_few {tp : List Nat} {rs : List Row} (ok : PrOk tp rs) (h : cnts rs ≤ 9) : (tasksS tp rs (plRs Pl.top 0 rs)).length ≤ 100000 := by
  have f1 := onw_len (n := tp.length) ok 10 9 (firstP rs) ⟨[], [], 0, [], firstBoxes tp.length⟩ (enough_first h)
  have fe := enough_loops h
  have f2 : ∀ p ∈ plRs Pl.top 0 rs, (fromP tp rs p).length ≤ 9728 := fun p hp => by
    obtain ⟨s, ws, b, e, e1, e2⟩ := fe p hp
    unfold fromP
    rw [e]
    show (fromLoop tp rs p s ws b).length ≤ _
    unfold fromLoop
    rw [List.length_append]
    exact Nat.le_trans (Nat.add_le_add (onw_len ok 10 8 _ _ e1) (onw_len ok 10 8 _ _ e2)) (by decide)
  have f3 : (plRs Pl.top 0 rs).length ≤ 9 := by
    have := loopsRs_len rs [] 0
    rw [places_eq, List.length_map] at this
    omega
  have f4 : ∀ l : List Pl, (∀ p ∈ l, (fromP tp rs p).length ≤ 9728) → (l.flatMap (fromP tp rs)).length ≤ l.length * 9728 := by
    intro l
    induction l with
    | nil => intro _; exact Nat.zero_le _
    | cons p l ih =>
      intro hl
      rw [List.flatMap_cons, List.length_append, List.length_cons, Nat.add_mul]
      have := hl p List.mem_cons_self
      have := ih fun q hq => hl q (List.mem_cons_of_mem _ hq)
      omega
  have f5 := f4 _ f2
  have f6 : (plRs Pl.top 0 rs).length * 9728 ≤ 9 * 9728 := Nat.mul_le_mul_right _ f3
  unfold tasksS
  rw [List.length_append]
  have f7 : (firstT tp rs).length ≤ 9728 := Nat.le_trans f1 (by decide)
  omega
end DL

/-! The bounds of what tasks hold; a program made; tasks as data for ==. -/
namespace DL
open PySem L2
def WdOk (n B : Nat) (s : Sm) : Prop := s.1.length = n ∧ BdL B s.1 ∧ Bd B s.2
theorem WdOk.mono {n B C : Nat} {s : Sm} (h : WdOk n B s) (l : B ≤ C) : WdOk n C s := ⟨h.1, fun x hx => (h.2.1 x hx).mono l, h.2.2.mono l⟩
theorem WdOk.opp {n B : Nat} {s : Sm} (h : WdOk n B s) : WdOk n (B + 1) (oppS s) := by
  refine ⟨by show (s.1.map _).length = n; rw [List.length_map]; exact h.1, fun x hx => ?_, ?_⟩
  · obtain ⟨y, hy, rfl⟩ := List.mem_map.mp hx
    have := h.2.1 y hy
    have p : (2 : Nat) ^ B ≤ 2 ^ (B + 1) := two_le (by omega)
    unfold Bd at *
    show (0 - y).natAbs < _
    omega
  · have := h.2.2
    have p : (2 : Nat) ^ (B + 1) = 2 ^ B + 2 ^ B := by rw [Nat.pow_succ]; omega
    unfold Bd at *
    show (1 - s.2).natAbs < _
    have : 0 < 2 ^ B := Nat.two_pow_pos _
    omega
theorem SmW.wd {n : Nat} {s : Sm} (h : SmW n s) : WdOk n 60 s := ⟨h.1, h.bd, h.bd2⟩
structure TkOk (n : Nat) (t : Tk) : Prop where
  truths : t.truths.length ≤ 1000
  words : t.words.length ≤ 1000
  wd : ∀ s ∈ t.words, WdOk n 1100 s
theorem put_wd {n : Nat} {w : WayS} {s : Sm} (ok : WayOk n w) (hs : SmW n s) : WdOk n 1020 (putS n s w.boxes) := by
  have pb := putS_bd hs ok.len ok.n3 ok.box (by omega)
  have := ok.done
  exact WdOk.mono (n := n) ⟨pb.1, pb.2.1, pb.2.2⟩ (by omega)
theorem tasksAt_ok {n : Nat} {w : WayS} (ok : WayOk n w) (hw : ∀ s ∈ w.words, WdOk n 1100 s) (hl : w.words.length + 1 ≤ 1000) (pl : List Nat) : ∀ (ws : List Sm) (k : Nat), (∀ s ∈ ws, SmW n s) → ∀ t ∈ tasksAt n w pl k ws, TkOk n t
  | [], _, _, t, h => by cases h
  | s :: ws, k, hs, t, h => by
    rcases List.mem_cons.mp h with z | z
    · rw [z]
      refine ⟨ok.truths, by show (w.words ++ [_]).length ≤ 1000; rw [List.length_append]; exact hl, fun x hx => ?_⟩
      rcases List.mem_append.mp hx with y | y
      · exact hw x y
      · rw [List.mem_singleton.mp y]
        exact (put_wd ok (hs s List.mem_cons_self)).opp.mono (by decide)
    · exact tasksAt_ok ok hw hl pl ws (k + 1) (fun x hx => hs x (List.mem_cons_of_mem _ hx)) t z
theorem onw_ok {tp : List Nat} {rs : List Row} (ok : PrOk tp rs) : ∀ (f : Nat) (o : Option Pl) (w : WayS), WayOk tp.length w → (∀ s ∈ w.words, WdOk tp.length 1100 s) → w.done + f ≤ 100 → w.words.length + f ≤ 1000 → w.truths.length + f ≤ 1000 → ∀ t ∈ onw tp.length tp rs f o w, TkOk tp.length t
  | 0, _, _, _, _, _, _, _, t, h => by cases h
  | f + 1, none, _, _, _, _, _, _, t, h => by cases h
  | f + 1, some p, w, wok, hw, h1, h2, h3, t, h => by
    unfold onw at h
    cases e : rowP rs p with
    | none => rw [e] at h; cases h
    | some r =>
      rw [e] at h
      have okr := rowP_ok ok.row p r e
      cases r with
      | put b s => exact onw_ok ok f _ _ (wok.put okr.2.2 (by omega)) hw (by show w.done + 1 + f ≤ 100; omega) (by show w.words.length + f ≤ 1000; omega) (by show w.truths.length + f ≤ 1000; omega) t h
      | say s =>
        have oks : SmW tp.length s := okr.2
        rcases List.mem_append.mp h with z | z
        · exact tasksAt_ok wok hw (by omega) _ _ _ (fun x hx => by rw [List.mem_singleton.mp hx]; exact oks) t z
        · refine onw_ok ok f _ (furtherW w [putS tp.length s w.boxes]) (wok.more _ _ (by omega) (by omega) (by simp; omega)) (fun x hx => ?_) (by show w.done + 1 + f ≤ 100; omega) (by show (w.words ++ [_]).length + f ≤ 1000; simp; omega) (by show w.truths.length + f ≤ 1000; omega) t z
          rcases List.mem_append.mp hx with y | y
          · exact hw x y
          · rw [List.mem_singleton.mp y]; exact (put_wd wok oks).mono (by decide)
      | ite s a b =>
        have oks : SmW tp.length s := okr.2.2.1
        have wt : ∀ t, WayOk tp.length (chosenW tp.length w s t) := fun t => wok.more _ _ (by omega) (by simp; omega) (by simp; omega)
        have w1 : ∀ t, (chosenW tp.length w s t).words.length + f ≤ 1000 := fun t => by show (w.words ++ [_]).length + f ≤ 1000; simp; omega
        have w2 : ∀ t, (chosenW tp.length w s t).truths.length + f ≤ 1000 := fun t => by show (w.truths ++ [_]).length + f ≤ 1000; simp; omega
        have w3 : ∀ t, ∀ x ∈ (chosenW tp.length w s t).words, WdOk tp.length 1100 x := fun t x hx => by
          rcases List.mem_append.mp hx with y | y
          · exact hw x y
          · rw [List.mem_singleton.mp y]
            cases t with
            | true => exact (put_wd wok oks).mono (by decide)
            | false => exact (put_wd wok oks).opp.mono (by decide)
        rcases List.mem_append.mp h with z | z
        · exact onw_ok ok f _ _ (wt true) (w3 true) (by show w.done + 1 + f ≤ 100; omega) (w1 true) (w2 true) t z
        · exact onw_ok ok f _ _ (wt false) (w3 false) (by show w.done + 1 + f ≤ 100; omega) (w1 false) (w2 false) t z
      | loop s ws b => exact tasksAt_ok wok hw (by omega) _ _ _ (askedS_ok ok.top okr.2) t h
theorem tasks_ok {tp : List Nat} {rs : List Row} (ok : PrOk tp rs) (c9 : cnts rs ≤ 9) : ∀ t ∈ tasksS tp rs (plRs Pl.top 0 rs), TkOk tp.length t := fun t h => by
  rcases List.mem_append.mp h with z | z
  · exact onw_ok ok 10 _ _ (startW_ok ok.top [] [] (by decide)) (fun _ y => by cases y) (by show 0 + 10 ≤ 100; decide) (by show 0 + 10 ≤ 1000; decide) (by show 0 + 10 ≤ 1000; decide) t z
  · obtain ⟨p, hp, z⟩ := List.mem_flatMap.mp z
    obtain ⟨s, ws, b, e, _, _⟩ := enough_loops c9 p hp
    unfold fromP at z
    rw [e] at z
    have okr := rowP_ok ok.row p _ e
    have oks : SmW tp.length s := okr.2.2.1
    have w3 := okr.2.2.2.1
    have wok := startW_ok ok.top p.list ws w3
    have hws : ∀ s ∈ ws, SmW tp.length s := okr.2.2.2.2.1
    have wt : ∀ t, WayOk tp.length (chosenW tp.length (loopW tp p ws) s t) := fun t => wok.more _ _ (by show 0 + 1 ≤ 100; decide) (by show 0 + 1 ≤ 1000; decide) (by show (ws ++ [_]).length ≤ 1000; simp; omega)
    have w1 : ∀ t, (chosenW tp.length (loopW tp p ws) s t).words.length + 10 ≤ 1000 := fun t => by show (ws ++ [_]).length + 10 ≤ 1000; simp; omega
    have w4 : ∀ t, ∀ x ∈ (chosenW tp.length (loopW tp p ws) s t).words, WdOk tp.length 1100 x := fun t x hx => by
      rcases List.mem_append.mp hx with y | y
      · exact (hws x y).wd.mono (by decide)
      · rw [List.mem_singleton.mp y]
        cases t with
        | true => exact (put_wd wok oks).mono (by decide)
        | false => exact (put_wd wok oks).opp.mono (by decide)
    rcases List.mem_append.mp z with z | z
    · exact onw_ok ok 10 _ _ (wt true) (w4 true) (by show 0 + 1 + 10 ≤ 100; decide) (w1 true) (by show 0 + 1 + 10 ≤ 1000; decide) t z
    · exact onw_ok ok 10 _ _ (wt false) (w4 false) (by show 0 + 1 + 10 ≤ 100; decide) (w1 false) (by show 0 + 1 + 10 ≤ 1000; decide) t z
/-- a program made and given up -/
theorem pr_made {C : Addr} {tp : List Nat} {rs : List Row} {O : Own} {Q : D → Own → Prop} (h : Q (encPr C tp rs) O) : ∃ d', (O ++ [some (DO.ins C [("tops", .lst (encN tp)), ("rows", .tup (encRs rs))])]).take O.length = O ∧
    Res (O ++ [some (DO.ins C [("tops", .lst (encN tp)), ("rows", .tup (encRs rs))])]) O.length (.own O.length) d' ∧ Q d' O :=
  ⟨encPr C tp rs, top_take, .ownI (Nat.le_refl _) top_get (ResF.same (.cons (.lst (encN_hd tp)) (.cons (.tup (encRs_hd rs)) .nil))), h⟩
/-! tasks as data for == -/
def pTk (t : Tk) : PyData := .tuple [.tuple (t.begin_.map fun i => .int (i : Nat)), .tuple (t.truths.map PyData.bool), .tuple (t.place.map fun i => .int (i : Nat)), .int (t.num : Nat), .int (t.done : Nat), .list (t.words.map pS)]
theorem py_B (l : List Bool) : PyAll 1 (encB l) (l.map PyData.bool) := PyAll.map D.bl PyData.bool l fun b _ => Py.bl b
theorem py_Tk {n k : Nat} {O : Own} {t : Tk} {d : D} (hk : 6 ≤ k) (h : pyD O k d = some (.list (t.words.map pS))) : pyD O (k + 1) (encTk t d) = some (pTk t) := by
  have pl : ∀ (l : List Nat), pyD O k (encPc l) = some (.tuple (l.map fun i => .int (i : Nat))) := fun l => (Py.tup (PyAll.map (fun i : Nat => D.int (i : Nat)) (fun i : Nat => PyData.int (i : Nat)) l fun i _ => Py.int _)) O k (by omega)
  have pb : pyD O k (.tup (encB t.truths)) = some (.tuple (t.truths.map PyData.bool)) := (Py.tup (py_B _)) O k (by omega)
  have pi : ∀ i : Int, pyD O k (.int i) = some (.int i) := fun i => Py.int i O k (by omega)
  show (pyL (pyD O k) [encPc t.begin_, .tup (encB t.truths), encPc t.place, .int (t.num : Nat), .int (t.done : Nat), d]).map PyData.tuple = _
  unfold pyL pyL pyL pyL pyL pyL pyL
  rw [pl, pl, pb, pi, pi, h]
  rfl
theorem py_TkF (t : Tk) : Py 10 (encTk t (.lst (encSs t.words))) (pTk t) := fun O k hk => by
  obtain ⟨j, rfl⟩ : ∃ j, k = j + 1 := ⟨k - 1, by omega⟩
  refine py_Tk (n := 0) (by omega) (Py.lst (PyAll.map encS pS t.words fun s _ => py_S s) O j (by omega))
theorem encH_zip : ∀ (ts : List Tk) (hs : List Nat), encH ts hs = (ts.zip hs).map fun x => encTk x.1 (.own x.2)
  | [], _ => rfl
  | _ :: _, [] => rfl
  | t :: ts, k :: hs => by
    show encTk t (.own k) :: encH ts hs = _
    rw [encH_zip ts hs]
    rfl
end DL

/-! The law's own asked. -/
namespace DL
open PySem L2
local macro_rules | `(tactic| walk_at "w") => `(tactic| conv => whnf)
def N_l_asked : List Str := ["_law_row_here", "_law_tops_here", "_law_words", "_law_k"]
def R_l_asked : DS :=
  (dSeq (dIfS (dTest (dOp eqD (dOp ixD (dVar 0) (dC (.int 0))) (dC (.str "say")))) (dRet (dFrz (dLst (dCons (dOp ixD (dVar 0) (dC (.int 1))) dNil)))) dNext)
  (dSeq (dAsg (dNew (dList (dOp ixD (dVar 0) (dC (.int 2))))) (dgName 2))
  (dSeq (dFor (diR1 (dCall1 lenD (dCons (dVar 1) dNil))) (dgName 3) (dSeq (dDrop (dApp (dVar 2) (dCall S_l_unit (dCons (dCall1 lenD (dCons (dVar 1) dNil)) (dCons (dVar 3) (dCons (negD (dC (.int 1))) (dCons (dC (.int 0)) dNil)))))))
  (dDrop (dApp (dVar 2) (dCall S_l_unit (dCons (dCall1 lenD (dCons (dVar 1) dNil)) (dCons (dVar 3) (dCons (dC (.int 1)) (dCons (negD (dOp ixD (dVar 1) (dVar 3))) dNil)))))))))
  (dRet (dVar 2)))))
def S_l_asked : DSp := fun ds O R => ∃ (r : Row) (tp : List Nat) (d : Nat), ds = [encR r, .lst (encN tp)] ∧ TpOk tp ∧ okR tp.length r d ∧ asks r = true ∧ R (.lst (encSs (askedS tp r))) O
theorem len_l_asked (ds : List D) (O : Own) (R : D → Own → Prop) (h : S_l_asked ds O R) : ds.length = 2 := by obtain ⟨_, _, _, rfl, _⟩ := h; rfl
theorem sem_l_asked (ds : List D) (O : Own) (R : D → Own → Prop) (h : S_l_asked ds O R) : R_l_asked { nx := fun _ O' => Pure O R .non O', rt := Pure O R } (startD N_l_asked ds) O := by
  obtain ⟨r, tp, d, rfl, ok, okr, ha, h⟩ := h
  have t3 := ok.few
  cases r with
  | put b s => cases ha
  | ite s a b => cases ha
  | say s =>
    walk_at "w"
    refine strT ok_say ?_
    exact Pure.same (.lst (encSs_hd [s])) h
  | loop s ws body =>
    have hw := okr.2.2.1
    walk_at "w"
    refine strF ok_loop ok_say (by decide +kernel) ?_
    walk_at "w"
    rw [encN_length]
    refine ⟨by omega, ?_⟩
    rw [Int.toNat_natCast]
    refine forL_rng tp.length (fun k δ O' => O' = O ++ [some (.lst (encSs (ws ++ boundsS tp tp.length k)))] ∧ ∃ a5, δ = [some (encR (.loop s ws body)), some (.lst (encN tp)), some (.own O.length), a5]) ⟨by show _ = O ++ [some (.lst (encSs (ws ++ [])))]; rw [List.append_nil], _, rfl⟩ (fun _ _ _ _ => trivial) ?_ ?_
    · rintro k δ O' nx hk ⟨rfl, a5, rfl⟩ hx
      have gk : tp[k]? = some tp[k] := List.getElem?_eq_getElem hk
      have ek : tp.getD k 0 = tp[k] := by rw [List.getD_eq_getElem?_getD, gk]; rfl
      have lb := boundsS_len tp tp.length k
      walk_at "w"
      rw [asL_top]
      walk_at "w"
      refine ⟨tp.length, k, -1, 0, (by show [D.int (encN tp).length, .int (k : Nat), .int (-1), .int 0] = _; rw [encN_length]), by omega, hk, ?_⟩
      walk_at "w"
      rw [top_get]
      walk_at "w"
      refine ⟨by rw [encSs_length, List.length_append]; omega, ?_⟩
      rw [top_set]
      walk_at "w"
      rw [asL_top]
      walk_at "w"
      rw [atD_nat (encN_get gk)]
      walk_at "w"
      refine ⟨tp.length, k, 1, 0 - (tp[k] : Int), (by show [D.int (encN tp).length, .int (k : Nat), .int 1, .int (-(tp[k] : Int))] = _; rw [encN_length, Int.zero_sub]), by omega, hk, ?_⟩
      walk_at "w"
      rw [top_get]
      walk_at "w"
      refine ⟨by rw [List.length_append, encSs_length, List.length_append]; show _ + 1 < _; omega, ?_⟩
      rw [top_set]
      refine hx _ _ ⟨?_, some (.int (k : Nat)), rfl⟩
      show _ = O ++ [some (.lst (encSs (ws ++ (boundsS tp tp.length k ++ [unitS tp.length k (-1) 0, unitS tp.length k 1 (0 - (tp.getD k 0 : Nat))]))))]
      rw [ek, ← List.append_assoc]
      unfold encSs
      rw [List.map_append (l₁ := ws ++ boundsS tp tp.length k), List.append_assoc]
      rfl
    · rintro δ O' ⟨rfl, a5, rfl⟩
      exact ⟨.lst (encSs (askedS tp (.loop s ws body))), top_take, .own (Nat.le_refl _) top_get (ResL.same (encSs_hd _)), h⟩
end DL

/-! The law's flat code. -/
namespace DL
open PySem L2
local macro_rules | `(tactic| walk_at "w") => `(tactic| conv => whnf)
inductive Ins where
  | row (r : Row) (pl : List Nat) | br (r : Row) (pl : List Nat) (t : Nat) | jmp (pl : List Nat) (t : Nat)
def encIn : Ins → D
  | .row r pl => .tup [.str (tagR r), encPc pl, encR r]
  | .br r pl t => .tup [.str (tagR r), encPc pl, encR r, .int (t : Nat)]
  | .jmp pl t => .tup [.str "jump", encPc pl, .int (t : Nat)]
def encIs (l : List Ins) : List D := l.map encIn
mutual
def codeR : List Nat → Nat → Row → List Ins
  | pl, _, .put b s => [.row (.put b s) pl]
  | pl, _, .say s => [.row (.say s) pl]
  | pl, s0, .ite s a b =>
    let ca := codeRs (pl ++ [0]) 0 (s0 + 1) a
    let mid := s0 + 1 + ca.length
    let cb := codeRs (pl ++ [1]) 0 (mid + 1) b
    .br (.ite s a b) pl (mid + 1) :: (ca ++ .jmp pl (mid + 1 + cb.length) :: cb)
  | pl, s0, .loop s ws body =>
    let cb := codeRs (pl ++ [0]) 0 (s0 + 1) body
    .br (.loop s ws body) pl (s0 + 1 + cb.length + 1) :: (cb ++ [.jmp pl s0])
def codeRs : List Nat → Nat → Nat → List Row → List Ins
  | _, _, _, [] => []
  | ahead, k, s0, r :: rs =>
    let c := codeR (ahead ++ [k]) s0 r
    c ++ codeRs ahead (k + 1) (s0 + c.length) rs
end
theorem encIs_length (l : List Ins) : (encIs l).length = l.length := List.length_map ..
theorem encIs_append (a b : List Ins) : encIs (a ++ b) = encIs a ++ encIs b := by unfold encIs; rw [List.map_append]
theorem encIs_get {l : List Ins} {i : Nat} {x : Ins} (h : l[i]? = some x) : (encIs l)[i]? = some (encIn x) := by unfold encIs; rw [List.getElem?_map, h]; rfl
mutual
theorem codeR_len : ∀ (r : Row) (pl : List Nat) (s0 : Nat), (codeR pl s0 r).length ≤ 2 * cntR r
  | .put _ _, _, _ => (by decide : 1 ≤ 2)
  | .say _, _, _ => (by decide : 1 ≤ 2)
  | .ite s a b, pl, s0 => by
    have h1 := codeRs_len a (pl ++ [0]) 0 (s0 + 1)
    have h2 := codeRs_len b (pl ++ [1]) 0 (s0 + 1 + (codeRs (pl ++ [0]) 0 (s0 + 1) a).length + 1)
    show (codeRs (pl ++ [0]) 0 (s0 + 1) a ++ _ :: codeRs (pl ++ [1]) 0 (s0 + 1 + (codeRs (pl ++ [0]) 0 (s0 + 1) a).length + 1) b).length + 1 ≤ 2 * (1 + cnts a + cnts b)
    rw [List.length_append, List.length_cons]
    omega
  | .loop s ws b, pl, s0 => by
    have h1 := codeRs_len b (pl ++ [0]) 0 (s0 + 1)
    show (codeRs (pl ++ [0]) 0 (s0 + 1) b ++ [_]).length + 1 ≤ 2 * (1 + cnts b)
    rw [List.length_append]
    show _ + 1 + 1 ≤ _
    omega
theorem codeRs_len : ∀ (rs : List Row) (ahead : List Nat) (k s0 : Nat), (codeRs ahead k s0 rs).length ≤ 2 * cnts rs
  | [], _, _, _ => Nat.zero_le _
  | r :: rs, ahead, k, s0 => by
    have h1 := codeR_len r (ahead ++ [k]) s0
    have h2 := codeRs_len rs ahead (k + 1) (s0 + (codeR (ahead ++ [k]) s0 r).length)
    show (codeR (ahead ++ [k]) s0 r ++ codeRs ahead (k + 1) (s0 + (codeR (ahead ++ [k]) s0 r).length) rs).length ≤ 2 * (cntR r + cnts rs)
    rw [List.length_append]
    omega
end
def S_l_code : Nat → DSp
  | 0 => fun _ _ _ => False
  | d + 1 => fun ds O R => ∃ (rs : List Row) (n : Nat) (ahead : List Nat) (h : Nat) (code : List Ins), ds = [.tup (encRs rs), encPc ahead, .own h] ∧ okRs n rs d ∧ O[h]? = some (some (.lst (encIs code))) ∧ code.length + 2 * cnts rs ≤ 1000 ∧ ahead.length + 2 * d ≤ 100 ∧
    R .non (O.set h (some (.lst (encIs (code ++ codeRs ahead 0 code.length rs)))))
def N_l_code : List Str := ["_law_rows_here", "_law_ahead", "_law_code_here", "_law_k", "_law_row_here", "_law_place", "_law_at_here", "_law_middle"]
def R_l_code (n : Nat) : DS :=
  (dFor (diR1 (dCall1 lenD (dCons (dVar 0) dNil))) (dgName 3) (dSeq (dAsg (dOp ixD (dVar 0) (dVar 3)) (dgName 4))
  (dSeq (dAsg (dOp addD (dVar 1) (dTup (dCons (dVar 3) dNil))) (dgName 5))
  (dSeq (dAsg (dCall1 lenD (dCons (dVar 2) dNil)) (dgName 6))
  (dSeq (dDrop (dApp (dVar 2) (dTup (dCons (dOp ixD (dVar 4) (dC (.int 0))) (dCons (dVar 5) (dCons (dVar 4) dNil))))))
  (dSeq (dIfS (dTest (dOp eqD (dOp ixD (dVar 4) (dC (.int 0))) (dC (.str "if")))) (dSeq (dDrop (dCall (S_l_code n) (dCons (dOp ixD (dVar 4) (dC (.int 2))) (dCons (dOp addD (dVar 5) (dTup (dCons (dC (.int 0)) dNil))) (dCons (dVar 2) dNil)))))
  (dSeq (dAsg (dCall1 lenD (dCons (dVar 2) dNil)) (dgName 7))
  (dSeq (dDrop (dApp (dVar 2) (dTup (dCons (dC (.str "jump")) (dCons (dVar 5) (dCons (dC (.int 0)) dNil))))))
  (dSeq (dDrop (dCall (S_l_code n) (dCons (dOp ixD (dVar 4) (dC (.int 3))) (dCons (dOp addD (dVar 5) (dTup (dCons (dC (.int 1)) dNil))) (dCons (dVar 2) dNil)))))
  (dSeq (dAsg (dTup (dCons (dC (.str "if")) (dCons (dVar 5) (dCons (dVar 4) (dCons (dOp addD (dVar 7) (dC (.int 1))) dNil))))) (dgSub (dVar 2) (dVar 6)))
  (dAsg (dTup (dCons (dC (.str "jump")) (dCons (dVar 5) (dCons (dCall1 lenD (dCons (dVar 2) dNil)) dNil)))) (dgSub (dVar 2) (dVar 7)))))))) dNext)
  (dIfS (dTest (dOp eqD (dOp ixD (dVar 4) (dC (.int 0))) (dC (.str "loop")))) (dSeq (dDrop (dCall (S_l_code n) (dCons (dOp ixD (dVar 4) (dC (.int 3))) (dCons (dOp addD (dVar 5) (dTup (dCons (dC (.int 0)) dNil))) (dCons (dVar 2) dNil)))))
  (dSeq (dDrop (dApp (dVar 2) (dTup (dCons (dC (.str "jump")) (dCons (dVar 5) (dCons (dVar 6) dNil))))))
  (dAsg (dTup (dCons (dC (.str "loop")) (dCons (dVar 5) (dCons (dVar 4) (dCons (dCall1 lenD (dCons (dVar 2) dNil)) dNil))))) (dgSub (dVar 2) (dVar 6))))) dNext)))))))
def R_l_code_b0 (n : Nat) : DS :=
  (dSeq (dAsg (dOp ixD (dVar 0) (dVar 3)) (dgName 4))
  (dSeq (dAsg (dOp addD (dVar 1) (dTup (dCons (dVar 3) dNil))) (dgName 5))
  (dSeq (dAsg (dCall1 lenD (dCons (dVar 2) dNil)) (dgName 6))
  (dSeq (dDrop (dApp (dVar 2) (dTup (dCons (dOp ixD (dVar 4) (dC (.int 0))) (dCons (dVar 5) (dCons (dVar 4) dNil))))))
  (dSeq (dIfS (dTest (dOp eqD (dOp ixD (dVar 4) (dC (.int 0))) (dC (.str "if")))) (dSeq (dDrop (dCall (S_l_code n) (dCons (dOp ixD (dVar 4) (dC (.int 2))) (dCons (dOp addD (dVar 5) (dTup (dCons (dC (.int 0)) dNil))) (dCons (dVar 2) dNil)))))
  (dSeq (dAsg (dCall1 lenD (dCons (dVar 2) dNil)) (dgName 7))
  (dSeq (dDrop (dApp (dVar 2) (dTup (dCons (dC (.str "jump")) (dCons (dVar 5) (dCons (dC (.int 0)) dNil))))))
  (dSeq (dDrop (dCall (S_l_code n) (dCons (dOp ixD (dVar 4) (dC (.int 3))) (dCons (dOp addD (dVar 5) (dTup (dCons (dC (.int 1)) dNil))) (dCons (dVar 2) dNil)))))
  (dSeq (dAsg (dTup (dCons (dC (.str "if")) (dCons (dVar 5) (dCons (dVar 4) (dCons (dOp addD (dVar 7) (dC (.int 1))) dNil))))) (dgSub (dVar 2) (dVar 6)))
  (dAsg (dTup (dCons (dC (.str "jump")) (dCons (dVar 5) (dCons (dCall1 lenD (dCons (dVar 2) dNil)) dNil)))) (dgSub (dVar 2) (dVar 7)))))))) dNext)
  (dIfS (dTest (dOp eqD (dOp ixD (dVar 4) (dC (.int 0))) (dC (.str "loop")))) (dSeq (dDrop (dCall (S_l_code n) (dCons (dOp ixD (dVar 4) (dC (.int 3))) (dCons (dOp addD (dVar 5) (dTup (dCons (dC (.int 0)) dNil))) (dCons (dVar 2) dNil)))))
  (dSeq (dDrop (dApp (dVar 2) (dTup (dCons (dC (.str "jump")) (dCons (dVar 5) (dCons (dVar 6) dNil))))))
  (dAsg (dTup (dCons (dC (.str "loop")) (dCons (dVar 5) (dCons (dVar 4) (dCons (dCall1 lenD (dCons (dVar 2) dNil)) dNil))))) (dgSub (dVar 2) (dVar 6))))) dNext))))))
def R_l_code_b0_s4 (n : Nat) : DS :=
  (dSeq (dIfS (dTest (dOp eqD (dOp ixD (dVar 4) (dC (.int 0))) (dC (.str "if")))) (dSeq (dDrop (dCall (S_l_code n) (dCons (dOp ixD (dVar 4) (dC (.int 2))) (dCons (dOp addD (dVar 5) (dTup (dCons (dC (.int 0)) dNil))) (dCons (dVar 2) dNil)))))
  (dSeq (dAsg (dCall1 lenD (dCons (dVar 2) dNil)) (dgName 7))
  (dSeq (dDrop (dApp (dVar 2) (dTup (dCons (dC (.str "jump")) (dCons (dVar 5) (dCons (dC (.int 0)) dNil))))))
  (dSeq (dDrop (dCall (S_l_code n) (dCons (dOp ixD (dVar 4) (dC (.int 3))) (dCons (dOp addD (dVar 5) (dTup (dCons (dC (.int 1)) dNil))) (dCons (dVar 2) dNil)))))
  (dSeq (dAsg (dTup (dCons (dC (.str "if")) (dCons (dVar 5) (dCons (dVar 4) (dCons (dOp addD (dVar 7) (dC (.int 1))) dNil))))) (dgSub (dVar 2) (dVar 6)))
  (dAsg (dTup (dCons (dC (.str "jump")) (dCons (dVar 5) (dCons (dCall1 lenD (dCons (dVar 2) dNil)) dNil)))) (dgSub (dVar 2) (dVar 7)))))))) dNext)
  (dIfS (dTest (dOp eqD (dOp ixD (dVar 4) (dC (.int 0))) (dC (.str "loop")))) (dSeq (dDrop (dCall (S_l_code n) (dCons (dOp ixD (dVar 4) (dC (.int 3))) (dCons (dOp addD (dVar 5) (dTup (dCons (dC (.int 0)) dNil))) (dCons (dVar 2) dNil)))))
  (dSeq (dDrop (dApp (dVar 2) (dTup (dCons (dC (.str "jump")) (dCons (dVar 5) (dCons (dVar 6) dNil))))))
  (dAsg (dTup (dCons (dC (.str "loop")) (dCons (dVar 5) (dCons (dVar 4) (dCons (dCall1 lenD (dCons (dVar 2) dNil)) dNil))))) (dgSub (dVar 2) (dVar 6))))) dNext))
def R_l_code_b0_s5 (n : Nat) : DS :=
  (dIfS (dTest (dOp eqD (dOp ixD (dVar 4) (dC (.int 0))) (dC (.str "loop")))) (dSeq (dDrop (dCall (S_l_code n) (dCons (dOp ixD (dVar 4) (dC (.int 3))) (dCons (dOp addD (dVar 5) (dTup (dCons (dC (.int 0)) dNil))) (dCons (dVar 2) dNil)))))
  (dSeq (dDrop (dApp (dVar 2) (dTup (dCons (dC (.str "jump")) (dCons (dVar 5) (dCons (dVar 6) dNil))))))
  (dAsg (dTup (dCons (dC (.str "loop")) (dCons (dVar 5) (dCons (dVar 4) (dCons (dCall1 lenD (dCons (dVar 2) dNil)) dNil))))) (dgSub (dVar 2) (dVar 6))))) dNext)
theorem len_l_code (n : Nat) (ds : List D) (O : Own) (R : D → Own → Prop) (h : S_l_code (n + 1) ds O R) : ds.length = 3 := by obtain ⟨_, _, _, _, _, rfl, _⟩ := h; rfl
theorem codeRs_append : ∀ (a b : List Row) (ahead : List Nat) (k s0 : Nat), codeRs ahead k s0 (a ++ b) = codeRs ahead k s0 a ++ codeRs ahead (k + a.length) (s0 + (codeRs ahead k s0 a).length) b
  | [], b, ahead, k, s0 => rfl
  | r :: a, b, ahead, k, s0 => by
    show codeR (ahead ++ [k]) s0 r ++ codeRs ahead (k + 1) (s0 + (codeR (ahead ++ [k]) s0 r).length) (a ++ b) = (codeR (ahead ++ [k]) s0 r ++ codeRs ahead (k + 1) (s0 + (codeR (ahead ++ [k]) s0 r).length) a) ++ codeRs ahead (k + (a.length + 1)) (s0 + (codeR (ahead ++ [k]) s0 r ++ codeRs ahead (k + 1) (s0 + (codeR (ahead ++ [k]) s0 r).length) a).length) b
    rw [codeRs_append a b, List.append_assoc, List.length_append]
    congr 2
    congr 1 <;> omega
/-- one row, from the place behind its own first instruction on -/
theorem code_round {n nn j hd : Nat} {rs : List Row} {ahead : List Nat} {O : Own} {r : Row} {code : List Ins} {nx bk ct : DSt → Own → Prop} {R : D → Own → Prop} {a7 : Option D} (hr : rs[j]? = some r) (hok : okR nn r n) (hlt : hd < O.length) (hc : code.length + 2 * cntR r ≤ 1000) (hah : ahead.length + 2 * n ≤ 100)
    (hx : ∀ a7, nx [some (.tup (encRs rs)), some (encPc ahead), some (.own hd), some (.int (j : Nat)), some (encR r), some (encPc (ahead ++ [j])), some (.int code.length), a7] (O.set hd (some (.lst (encIs (code ++ codeR (ahead ++ [j]) code.length r)))))) :
    R_l_code_b0_s4 n { nx := nx, rt := R, bk := bk, ct := ct } [some (.tup (encRs rs)), some (encPc ahead), some (.own hd), some (.int (j : Nat)), some (encR r), some (encPc (ahead ++ [j])), some (.int code.length), a7] (O.set hd (some (.lst (encIs (code ++ [.row r (ahead ++ [j])]))))) := by
  cases r with
  | put b s =>
    walk_at "w"
    refine strF ok_put ok_if (by decide +kernel) ?_
    walk_at "w"
    refine strF ok_put ok_loop (by decide +kernel) ?_
    exact hx _
  | say s =>
    walk_at "w"
    refine strF ok_say ok_if (by decide +kernel) ?_
    walk_at "w"
    refine strF ok_say ok_loop (by decide +kernel) ?_
    exact hx _
  | ite s a b =>
    obtain ⟨h0, _, ha, hb⟩ := hok
    obtain ⟨m, rfl⟩ : ∃ m, n = m + 1 := ⟨n - 1, by omega⟩
    have e1 : ∀ q : Nat, (ahead ++ [j]).map (fun i : Nat => D.int (i : Int)) ++ [.int (q : Nat)] = (ahead ++ [j] ++ [q]).map (fun i : Nat => D.int (i : Int)) := fun q => by rw [List.map_append (l₁ := ahead ++ [j])]; rfl
    have la := codeRs_len a (ahead ++ [j] ++ [0]) 0 (code.length + 1)
    have hcn : cntR (.ite s a b) = 1 + cnts a + cnts b := rfl
    have asS : ∀ ds, asL (O.set hd (some (.lst ds))) (.own hd) = some ds := fun ds => by unfold asL; dsimp only; rw [setget hlt]
    have lb : (code ++ [Ins.row (.ite s a b) (ahead ++ [j])]).length = code.length + 1 := by simp
    walk_at "w"
    refine strT ok_if ?_
    walk_at "w"
    refine ⟨by simp; omega, ?_⟩
    have e10 := e1 0
    have e11 := e1 1
    rw [show ((0 : Nat) : Int) = 0 from rfl] at e10
    rw [show ((1 : Nat) : Int) = 1 from rfl] at e11
    rw [e10]
    refine ⟨a, nn, ahead ++ [j] ++ [0], hd, code ++ [.row (.ite s a b) (ahead ++ [j])], rfl, ha, setget hlt, by simp; omega, by simp; omega, ?_⟩
    rw [List.set_set, lb]
    generalize eca : codeRs (ahead ++ [j] ++ [0]) 0 (code.length + 1) a = ca at la
    walk_at "w"
    rw [asS]
    walk_at "w"
    rw [asS]
    walk_at "w"
    rw [setget hlt]
    walk_at "w"
    refine ⟨by rw [encIs_length, List.length_append, lb]; omega, ?_⟩
    rw [List.set_set]
    have eJ : encIs (code ++ [Ins.row (.ite s a b) (ahead ++ [j])] ++ ca) ++ [D.tup [.str "jump", encPc (ahead ++ [j]), .int 0]] = encIs (code ++ [Ins.row (.ite s a b) (ahead ++ [j])] ++ ca ++ [Ins.jmp (ahead ++ [j]) 0]) := by rw [encIs_append (code ++ _ ++ ca)]; rfl
    rw [eJ]
    have lm : (code ++ [Ins.row (.ite s a b) (ahead ++ [j])] ++ ca ++ [Ins.jmp (ahead ++ [j]) 0]).length = code.length + 1 + ca.length + 1 := by rw [List.length_append, List.length_append, lb]; rfl
    walk_at "w"
    refine ⟨by simp; omega, ?_⟩
    rw [e11]
    have lbb := codeRs_len b (ahead ++ [j] ++ [1]) 0 (code.length + 1 + ca.length + 1)
    refine ⟨b, nn, ahead ++ [j] ++ [1], hd, code ++ [Ins.row (.ite s a b) (ahead ++ [j])] ++ ca ++ [Ins.jmp (ahead ++ [j]) 0], rfl, hb, setget hlt, by rw [lm]; omega, by simp; omega, ?_⟩
    rw [List.set_set, lm]
    generalize ecb : codeRs (ahead ++ [j] ++ [1]) 0 (code.length + 1 + ca.length + 1) b = cb at lbb
    walk_at "w"
    rw [setget hlt]
    walk_at "w"
    have lL : (encIs (code ++ [Ins.row (.ite s a b) (ahead ++ [j])] ++ ca ++ [Ins.jmp (ahead ++ [j]) 0] ++ cb)).length = code.length + 1 + ca.length + 1 + cb.length := by rw [encIs_length, List.length_append, lm]
    have e9 : ixN (encIs (code ++ [Ins.row (.ite s a b) (ahead ++ [j])] ++ ca ++ [Ins.jmp (ahead ++ [j]) 0] ++ cb)).length ((code.length : Nat) : Int) = some code.length := by
      unfold ixN
      rw [lL, if_pos (by omega), if_pos (by omega), Int.toNat_natCast]
    rw [e9]
    walk_at "w"
    rw [List.set_set]
    rw [asS]
    walk_at "w"
    rw [setget hlt]
    walk_at "w"
    have lM : (encIs (code ++ [Ins.row (.ite s a b) (ahead ++ [j])] ++ ca)).length = code.length + 1 + ca.length := by rw [encIs_length, List.length_append, lb]
    rw [List.length_set, lL, lM]
    have e12 : ixN (code.length + 1 + ca.length + 1 + cb.length) ((code.length + 1 + ca.length : Nat) : Int) = some (code.length + 1 + ca.length) := by
      unfold ixN
      rw [if_pos (by omega), if_pos (by omega), Int.toNat_natCast]
    rw [e12]
    walk_at "w"
    rw [List.set_set]
    walk_at "w"
    refine strF ok_if ok_loop (by decide +kernel) ?_
    have ec : codeR (ahead ++ [j]) code.length (.ite s a b) = .br (.ite s a b) (ahead ++ [j]) (code.length + 1 + ca.length + 1) :: (ca ++ .jmp (ahead ++ [j]) (code.length + 1 + ca.length + 1 + cb.length) :: cb) := by
      show Ins.br (.ite s a b) (ahead ++ [j]) (code.length + 1 + (codeRs (ahead ++ [j] ++ [0]) 0 (code.length + 1) a).length + 1) :: (codeRs (ahead ++ [j] ++ [0]) 0 (code.length + 1) a ++ .jmp (ahead ++ [j]) (code.length + 1 + (codeRs (ahead ++ [j] ++ [0]) 0 (code.length + 1) a).length + 1 + (codeRs (ahead ++ [j] ++ [1]) 0 (code.length + 1 + (codeRs (ahead ++ [j] ++ [0]) 0 (code.length + 1) a).length + 1) b).length) :: codeRs (ahead ++ [j] ++ [1]) 0 (code.length + 1 + (codeRs (ahead ++ [j] ++ [0]) 0 (code.length + 1) a).length + 1) b) = _
      rw [eca, ecb]
    have e3 : ∀ (x : Ins) (l : List Ins), encIs (x :: l) = encIn x :: encIs l := fun _ _ => rfl
    have eF : ((encIs (code ++ [Ins.row (.ite s a b) (ahead ++ [j])] ++ ca ++ [Ins.jmp (ahead ++ [j]) 0] ++ cb)).set code.length (.tup [.str "if", encPc (ahead ++ [j]), encR (.ite s a b), .int ((code.length + 1 + ca.length : Nat) + 1 : Int)])).set (code.length + 1 + ca.length) (.tup [.str "jump", encPc (ahead ++ [j]), .int ((code.length + 1 + ca.length + 1 + cb.length : Nat) : Int)]) = encIs (code ++ codeR (ahead ++ [j]) code.length (.ite s a b)) := by
      rw [ec, encIs_append code, e3, encIs_append ca, e3]
      simp only [encIs_append, List.append_assoc]
      rw [List.set_append_right _ _ (by rw [encIs_length]; exact Nat.le_refl _), encIs_length, Nat.sub_self, List.set_append_right _ _ (by rw [encIs_length]; omega), encIs_length]
      rw [show code.length + 1 + ca.length - code.length = ca.length + 1 from by omega]
      show encIs code ++ _ :: ((encIs ca ++ (encIn (Ins.jmp (ahead ++ [j]) 0) :: encIs cb)).set ca.length _) = _
      rw [List.set_append_right _ _ (by rw [encIs_length]; exact Nat.le_refl _), encIs_length, Nat.sub_self]
      rfl
    have hx' := hx (some (.int ((code.length + 1 + ca.length : Nat) : Int)))
    rw [← eF] at hx'
    rw [lM] at *
    exact hx'
  | loop s ws body =>
    obtain ⟨h0, _, _, _, hb⟩ := hok
    obtain ⟨m, rfl⟩ : ∃ m, n = m + 1 := ⟨n - 1, by omega⟩
    have e1 : (ahead ++ [j]).map (fun i : Nat => D.int (i : Int)) ++ [.int 0] = (ahead ++ [j] ++ [0]).map (fun i : Nat => D.int (i : Int)) := by rw [List.map_append (l₁ := ahead ++ [j])]; rfl
    have lc := codeRs_len body (ahead ++ [j] ++ [0]) 0 (code.length + 1)
    have hcn : cntR (.loop s ws body) = 1 + cnts body := rfl
    walk_at "w"
    refine strF ok_loop ok_if (by decide +kernel) ?_
    walk_at "w"
    refine strT ok_loop ?_
    walk_at "w"
    refine ⟨by simp; omega, ?_⟩
    rw [e1]
    refine ⟨body, nn, ahead ++ [j] ++ [0], hd, code ++ [.row (.loop s ws body) (ahead ++ [j])], rfl, hb, setget hlt, by simp; omega, by simp; omega, ?_⟩
    rw [List.set_set]
    have lb : (code ++ [Ins.row (.loop s ws body) (ahead ++ [j])]).length = code.length + 1 := by simp
    rw [lb]
    walk_at "w"
    have asS : ∀ ds, asL (O.set hd (some (.lst ds))) (.own hd) = some ds := fun ds => by unfold asL; dsimp only; rw [setget hlt]
    rw [asS]
    walk_at "w"
    rw [setget hlt]
    walk_at "w"
    refine ⟨by rw [encIs_length, List.length_append, List.length_append]; show _ + 1 + _ < _; omega, ?_⟩
    rw [List.set_set]
    walk_at "w"
    rw [asS]
    walk_at "w"
    rw [setget hlt]
    walk_at "w"
    generalize ecb : codeRs (ahead ++ [j] ++ [0]) 0 (code.length + 1) body = cb at lc
    have ll : (encIs (code ++ [Ins.row (.loop s ws body) (ahead ++ [j])] ++ cb) ++ [D.tup [.str "jump", encPc (ahead ++ [j]), .int code.length]]).length = code.length + 1 + cb.length + 1 := by
      rw [List.length_append, encIs_length, List.length_append, lb]
      rfl
    have e9 : ixN (encIs (code ++ [Ins.row (.loop s ws body) (ahead ++ [j])] ++ cb) ++ [D.tup [.str "jump", encPc (ahead ++ [j]), .int code.length]]).length ((code.length : Nat) : Int) = some code.length := by
      unfold ixN
      rw [ll, if_pos (by omega), if_pos (by omega), Int.toNat_natCast]
    rw [e9]
    walk_at "w"
    rw [List.set_set, ll]
    have eF : (encIs (code ++ [Ins.row (.loop s ws body) (ahead ++ [j])] ++ cb) ++ [D.tup [.str "jump", encPc (ahead ++ [j]), .int code.length]]).set code.length (.tup [.str "loop", encPc (ahead ++ [j]), encR (.loop s ws body), .int ((code.length + 1 + cb.length + 1 : Nat) : Int)]) = encIs (code ++ codeR (ahead ++ [j]) code.length (.loop s ws body)) := by
      have ec : codeR (ahead ++ [j]) code.length (.loop s ws body) = .br (.loop s ws body) (ahead ++ [j]) (code.length + 1 + cb.length + 1) :: (cb ++ [.jmp (ahead ++ [j]) code.length]) := by
        show Ins.br (.loop s ws body) (ahead ++ [j]) (code.length + 1 + (codeRs (ahead ++ [j] ++ [0]) 0 (code.length + 1) body).length + 1) :: (codeRs (ahead ++ [j] ++ [0]) 0 (code.length + 1) body ++ [.jmp (ahead ++ [j]) code.length]) = _
        rw [ecb]
      rw [ec, encIs_append, encIs_append, encIs_append, List.append_assoc, List.append_assoc, List.set_append_right _ _ (by rw [encIs_length]; exact Nat.le_refl _), encIs_length, Nat.sub_self]
      show encIs code ++ _ :: (encIs cb ++ _) = encIs code ++ encIs (_ :: (cb ++ _))
      have e3 : ∀ (x : Ins) (l : List Ins), encIs (x :: l) = encIn x :: encIs l := fun _ _ => rfl
      rw [e3, encIs_append]
      rfl
    rw [eF]
    exact hx _
theorem sem_l_code (n : Nat) (ds : List D) (O : Own) (R : D → Own → Prop) (h : S_l_code (n + 1) ds O R) : R_l_code n { nx := fun _ O' => R .non O', rt := R } (startD N_l_code ds) O := by
  obtain ⟨rs, nn, ahead, hd, code, rfl, ok, hO, hc, hah, h⟩ := h
  have hlt : hd < O.length := (List.getElem?_eq_some_iff.mp hO).1
  have asS : ∀ ds, asL (O.set hd (some (.lst ds))) (.own hd) = some ds := fun ds => by unfold asL; dsimp only; rw [setget hlt]
  walk_at "w"
  rw [encRs_length]
  have hl := len_le_cnts rs
  refine ⟨by omega, ?_⟩
  rw [Int.toNat_natCast]
  refine forL_rng rs.length (fun j δ O' => O' = O.set hd (some (.lst (encIs (code ++ codeRs ahead 0 code.length (rs.take j))))) ∧ ∃ a3 a4 a5 a6 a7, δ = [some (.tup (encRs rs)), some (encPc ahead), some (.own hd), a3, a4, a5, a6, a7]) ⟨?_, _, _, _, _, _, rfl⟩ (fun _ _ _ _ => trivial) ?_ ?_
  · rw [List.take_zero]
    show _ = O.set hd (some (.lst (encIs (code ++ []))))
    rw [List.append_nil]
    exact (set_same hO).symm
  · rintro j δ O' nx hj ⟨rfl, a3, a4, a5, a6, a7, rfl⟩ hx
    have gj : rs[j]? = some rs[j] := List.getElem?_eq_getElem hj
    generalize er : rs[j] = r at gj
    have okr := okR_le gj ok
    have cg := cnts_get gj
    have lt := codeRs_len (rs.take j) ahead 0 code.length
    have e1 : ahead.map (fun i : Nat => D.int (i : Int)) ++ [.int (j : Nat)] = (ahead ++ [j]).map (fun i : Nat => D.int (i : Int)) := by rw [List.map_append]; rfl
    have tk : rs.take (j + 1) = rs.take j ++ [r] := by rw [List.take_succ_eq_append_getElem hj, er]
    have fin : code ++ codeRs ahead 0 code.length (rs.take (j + 1)) = (code ++ codeRs ahead 0 code.length (rs.take j)) ++ codeR (ahead ++ [j]) (code ++ codeRs ahead 0 code.length (rs.take j)).length r := by
      rw [tk, codeRs_append]
      show code ++ (_ ++ (codeR (ahead ++ [0 + (rs.take j).length]) (code.length + (codeRs ahead 0 code.length (rs.take j)).length) r ++ [])) = _
      rw [List.append_nil, List.length_take, Nat.min_eq_left (by omega), Nat.zero_add, List.append_assoc, List.length_append]
    rw [fin] at hx
    generalize ec : code ++ codeRs ahead 0 code.length (rs.take j) = cc at hx ⊢
    have lcc : cc.length + 2 * cntR r ≤ 1000 := by rw [← ec, List.length_append]; omega
    obtain ⟨tl, et⟩ := encR_tup r
    walk_at "w"
    rw [atD_nat (encRs_get gj)]
    walk_at "w"
    refine ⟨by simp; omega, ?_⟩
    rw [e1]
    walk_at "w"
    rw [asS]
    walk_at "w"
    rw [asS]
    walk_at "w"
    rw [et]
    walk_at "w"
    rw [setget hlt]
    walk_at "w"
    refine ⟨by rw [encIs_length]; omega, ?_⟩
    rw [List.set_set, ← et, encIs_length]
    have e3 : encIs cc ++ [.tup [.str (tagR r), encPc (ahead ++ [j]), encR r]] = encIs (cc ++ [.row r (ahead ++ [j])]) := by rw [encIs_append]; rfl
    have g := fun bk ct R => code_round (n := n) (O := O) (code := cc) (a7 := a7) (nx := nx) (bk := bk) (ct := ct) (R := R) gj okr hlt lcc hah fun b7 => hx _ _ ⟨rfl, _, _, _, _, _, rfl⟩
    rw [← e3] at g
    exact g _ _ _
  · rintro δ O' ⟨rfl, a3, a4, a5, a6, a7, rfl⟩
    rw [List.take_of_length_le (Nat.le_refl _)]
    exact h
end DL

/-! Where the rows stand in the flat code. -/
namespace DL
open PySem L2
mutual
def szR : Row → Nat
  | .put _ _ => 1
  | .say _ => 1
  | .ite _ a b => 1 + szRs a + 1 + szRs b
  | .loop _ _ b => 1 + szRs b + 1
def szRs : List Row → Nat
  | [] => 0
  | r :: rs => szR r + szRs rs
end
mutual
theorem codeR_sz : ∀ (r : Row) (pl : List Nat) (s0 : Nat), (codeR pl s0 r).length = szR r
  | .put _ _, _, _ => rfl
  | .say _, _, _ => rfl
  | .ite s a b, pl, s0 => by
    have h1 := codeRs_sz a (pl ++ [0]) 0 (s0 + 1)
    have h2 := codeRs_sz b (pl ++ [1]) 0 (s0 + 1 + (codeRs (pl ++ [0]) 0 (s0 + 1) a).length + 1)
    show (codeRs (pl ++ [0]) 0 (s0 + 1) a ++ _ :: codeRs (pl ++ [1]) 0 (s0 + 1 + (codeRs (pl ++ [0]) 0 (s0 + 1) a).length + 1) b).length + 1 = 1 + szRs a + 1 + szRs b
    rw [List.length_append, List.length_cons]
    omega
  | .loop s ws b, pl, s0 => by
    have h1 := codeRs_sz b (pl ++ [0]) 0 (s0 + 1)
    show (codeRs (pl ++ [0]) 0 (s0 + 1) b ++ [_]).length + 1 = 1 + szRs b + 1
    rw [List.length_append]
    show _ + 1 + 1 = _
    omega
theorem codeRs_sz : ∀ (rs : List Row) (ahead : List Nat) (k s0 : Nat), (codeRs ahead k s0 rs).length = szRs rs
  | [], _, _, _ => rfl
  | r :: rs, ahead, k, s0 => by
    have h1 := codeR_sz r (ahead ++ [k]) s0
    have h2 := codeRs_sz rs ahead (k + 1) (s0 + (codeR (ahead ++ [k]) s0 r).length)
    show (codeR (ahead ++ [k]) s0 r ++ codeRs ahead (k + 1) (s0 + (codeR (ahead ++ [k]) s0 r).length) rs).length = szR r + szRs rs
    rw [List.length_append]
    omega
end
theorem szRs_append : ∀ (a b : List Row), szRs (a ++ b) = szRs a + szRs b
  | [], b => by show szRs b = 0 + szRs b; omega
  | r :: a, b => by show szR r + szRs (a ++ b) = szR r + szRs a + szRs b; rw [szRs_append a b]; omega
theorem szRs_take {x : List Row} {j : Nat} {r : Row} (h : x[j]? = some r) : szRs (x.take (j + 1)) = szRs (x.take j) + szR r := by
  obtain ⟨hj, e⟩ := List.getElem?_eq_some_iff.mp h
  rw [List.take_succ_eq_append_getElem hj, szRs_append, e]
  show _ + (szR r + 0) = _
  omega
/-- where a branch of a row begins, from the row's own first deed on -/
def brOf : Row → Nat → Nat
  | .ite _ _ _, 0 => 1
  | .ite _ x _, _ => 1 + szRs x + 1
  | _, _ => 1
def posP (rs : List Row) : Pl → Nat
  | .top i => szRs (rs.take i)
  | .sub p b j => match rowP rs p with
    | some r => posP rs p + brOf r b + szRs ((((innerR r)[b]?).getD []).take j)
    | none => 0
theorem posP_sub {rs : List Row} {p : Pl} {b j : Nat} {r : Row} {x : List Row} (h : rowP rs p = some r) (hx : (innerR r)[b]? = some x) : posP rs (.sub p b j) = posP rs p + brOf r b + szRs (x.take j) := by
  show (match rowP rs p with | some r => posP rs p + brOf r b + szRs ((((innerR r)[b]?).getD []).take j) | none => 0) = _
  rw [h]
  show posP rs p + brOf r b + szRs ((((innerR r)[b]?).getD []).take j) = _
  rw [hx]
  rfl
/-! ### a part of the code -/
def Seg (code : List Ins) (a : Nat) (s : List Ins) : Prop := ∀ (i : Nat) (x : Ins), s[i]? = some x → code[a + i]? = some x
theorem Seg.left {code : List Ins} {a : Nat} {s t : List Ins} (h : Seg code a (s ++ t)) : Seg code a s := fun i x e => h i x (by
  rw [List.getElem?_append_left (List.getElem?_eq_some_iff.mp e).1]
  exact e)
theorem Seg.right {code : List Ins} {a : Nat} {s t : List Ins} (h : Seg code a (s ++ t)) : Seg code (a + s.length) t := fun i x e => by
  have := h (s.length + i) x (by rw [List.getElem?_append_right (by omega), show s.length + i - s.length = i from by omega]; exact e)
  rw [Nat.add_assoc]
  exact this
theorem Seg.tail {code : List Ins} {a : Nat} {y : Ins} {t : List Ins} (h : Seg code a (y :: t)) : Seg code (a + 1) t := Seg.right (s := [y]) h
theorem Seg.head {code : List Ins} {a : Nat} {y : Ins} {t : List Ins} (h : Seg code a (y :: t)) : code[a]? = some y := h 0 y rfl
theorem seg_row {code : List Ins} {a j : Nat} {ahead : List Nat} {xs : List Row} {r : Row} (h : Seg code a (codeRs ahead 0 a xs)) (hr : xs[j]? = some r) : Seg code (a + szRs (xs.take j)) (codeR (ahead ++ [j]) (a + szRs (xs.take j)) r) := by
  obtain ⟨hj, e⟩ := List.getElem?_eq_some_iff.mp hr
  have ex : xs = xs.take j ++ (r :: xs.drop (j + 1)) := by rw [← e, ← List.drop_eq_getElem_cons hj, List.take_append_drop]
  have lt : (xs.take j).length = j := by rw [List.length_take]; omega
  rw [ex, codeRs_append] at h
  have h2 := h.right
  rw [codeRs_sz, lt, Nat.zero_add] at h2
  exact Seg.left (s := codeR (ahead ++ [j]) (a + szRs (xs.take j)) r) h2
theorem seg_branch {code : List Ins} {a b : Nat} {pl : List Nat} {r : Row} {x : List Row} (h : Seg code a (codeR pl a r)) (hx : (innerR r)[b]? = some x) : Seg code (a + brOf r b) (codeRs (pl ++ [b]) 0 (a + brOf r b) x) := by
  cases r with
  | put _ _ => cases hx
  | say _ => cases hx
  | loop s ws y =>
    cases b with
    | zero => cases hx; exact Seg.left (Seg.tail h)
    | succ b => cases hx
  | ite s y z =>
    have t := Seg.tail h
    cases b with
    | zero => cases hx; exact Seg.left t
    | succ b =>
      cases b with
      | succ b => cases hx
      | zero =>
        cases hx
        have t2 := Seg.tail (Seg.right t)
        rw [codeRs_sz] at t2
        have e : a + 1 + szRs y + 1 = a + brOf (.ite s y x) 1 := by show _ = a + (1 + szRs y + 1); omega
        rw [e] at t2
        exact t2
theorem seg_place {rs : List Row} : ∀ (p : Pl) (r : Row), rowP rs p = some r → Seg (codeRs [] 0 0 rs) (posP rs p) (codeR p.list (posP rs p) r)
  | .top i, r, h => by
    have s0 : Seg (codeRs [] 0 0 rs) 0 (codeRs [] 0 0 rs) := fun i x e => by rw [Nat.zero_add]; exact e
    have := seg_row s0 (h : rs[i]? = some r)
    rw [Nat.zero_add] at this
    exact this
  | .sub p b j, r, h => by
    obtain ⟨r0, x, e, e2, e3⟩ := rowP_sub h
    have s0 := seg_branch (seg_place p r0 e) e2
    have s1 := seg_row s0 e3
    rw [posP_sub e e2]
    show Seg _ _ (codeR (p.list ++ [b, j]) _ r)
    rw [show p.list ++ [b, j] = p.list ++ [b] ++ [j] from by simp]
    exact s1
/-! ### jumps -/
inductive Jm (code : List Ins) : Nat → Nat → Nat → Prop
  | stop {a : Nat} (h : ∀ pl t, code[a]? ≠ some (.jmp pl t)) : Jm code 0 a a
  | go {n a t b : Nat} {pl : List Nat} (h : code[a]? = some (.jmp pl t)) (g : Jm code n t b) : Jm code (n + 1) a b
def posO (rs : List Row) : Option Pl → Nat
  | none => szRs rs
  | some p => posP rs p
theorem code_row {rs : List Row} {p : Pl} {r : Row} (h : rowP rs p = some r) (hi : innerR r = []) : (codeRs [] 0 0 rs)[posP rs p]? = some (.row r p.list) := by
  have s := seg_place p r h
  cases r with
  | put _ _ => exact Seg.head s
  | say _ => exact Seg.head s
  | loop _ _ _ => cases hi
  | ite _ _ _ => cases hi
theorem code_ite {rs : List Row} {p : Pl} {s : Sm} {a b : List Row} (h : rowP rs p = some (.ite s a b)) : (codeRs [] 0 0 rs)[posP rs p]? = some (.br (.ite s a b) p.list (posP rs p + brOf (.ite s a b) 1)) := by
  have g := Seg.head (seg_place p _ h)
  rw [codeRs_sz] at g
  have e : posP rs p + 1 + szRs a + 1 = posP rs p + brOf (.ite s a b) 1 := by show _ = posP rs p + (1 + szRs a + 1); omega
  rw [e] at g
  exact g
theorem code_loop {rs : List Row} {p : Pl} {s : Sm} {ws : List Sm} {b : List Row} (h : rowP rs p = some (.loop s ws b)) : (codeRs [] 0 0 rs)[posP rs p]? = some (.br (.loop s ws b) p.list (posP rs p + szR (.loop s ws b))) := by
  have g := Seg.head (seg_place p _ h)
  rw [codeRs_sz] at g
  have e : posP rs p + 1 + szRs b + 1 = posP rs p + szR (.loop s ws b) := by show _ = posP rs p + (1 + szRs b + 1); omega
  rw [e] at g
  exact g
theorem jm_row {rs : List Row} {p : Pl} {r : Row} (h : rowP rs p = some r) : Jm (codeRs [] 0 0 rs) 0 (posP rs p) (posP rs p) := .stop fun pl t e => by
  cases r with
  | put _ _ => rw [code_row h rfl] at e; cases e
  | say _ => rw [code_row h rfl] at e; cases e
  | loop _ _ _ => rw [code_loop h] at e; cases e
  | ite _ _ _ => rw [code_ite h] at e; cases e
theorem jm_end {rs : List Row} : Jm (codeRs [] 0 0 rs) 0 (szRs rs) (szRs rs) := .stop fun pl t e => by
  have := (List.getElem?_eq_some_iff.mp e).1
  rw [codeRs_sz] at this
  omega
/-- at the end of a branch -/
theorem jm_tail {rs : List Row} {p : Pl} {r : Row} {b : Nat} {x : List Row} {t : Nat} (h : rowP rs p = some r) (hx : (innerR r)[b]? = some x) (g : ∃ n, Jm (codeRs [] 0 0 rs) n (if isLoop r then posP rs p else posP rs p + szR r) t) :
    ∃ n, Jm (codeRs [] 0 0 rs) n (posP rs p + brOf r b + szRs x) t := by
  have sg := seg_place p r h
  obtain ⟨n, g⟩ := g
  cases r with
  | put _ _ => cases hx
  | say _ => cases hx
  | loop s ws y =>
    cases b with
    | succ b => cases hx
    | zero =>
      cases hx
      have s2 := Seg.head (Seg.right (Seg.tail sg))
      rw [codeRs_sz] at s2
      exact ⟨_, .go s2 g⟩
  | ite s y z =>
    cases b with
    | zero =>
      obtain rfl : y = x := Option.some.inj hx
      have s2 := Seg.head (Seg.right (Seg.tail sg))
      rw [codeRs_sz, codeRs_sz] at s2
      have e : posP rs p + 1 + szRs y + 1 + szRs z = posP rs p + szR (.ite s y z) := by show _ = posP rs p + (1 + szRs y + 1 + szRs z); omega
      rw [e] at s2
      exact ⟨_, .go s2 g⟩
    | succ b =>
      cases b with
      | succ b => cases hx
      | zero =>
        obtain rfl : z = x := Option.some.inj hx
        have e : posP rs p + brOf (.ite s y z) 1 + szRs z = posP rs p + szR (.ite s y z) := by show posP rs p + (1 + szRs y + 1) + szRs z = posP rs p + (1 + szRs y + 1 + szRs z); omega
        rw [e]
        exact ⟨n, g⟩
theorem behind_jm {rs : List Row} : ∀ (p : Pl) (r : Row), rowP rs p = some r → ∃ n, Jm (codeRs [] 0 0 rs) n (posP rs p + szR r) (posO rs (behindP rs p))
  | .top i, r, h => by
    have h' : rs[i]? = some r := h
    have e : posP rs (.top i) + szR r = szRs (rs.take (i + 1)) := (szRs_take h').symm
    rw [e]
    show ∃ n, Jm _ n _ (posO rs (if i + 1 < rs.length then some (.top (i + 1)) else none))
    by_cases q : i + 1 < rs.length
    · rw [if_pos q]
      exact ⟨0, jm_row (p := .top (i + 1)) (List.getElem?_eq_getElem q)⟩
    · rw [if_neg q, List.take_of_length_le (by omega)]
      exact ⟨0, jm_end⟩
  | .sub p b j, r, h => by
    obtain ⟨r0, x, e, e2, e3⟩ := rowP_sub h
    rw [behind_sub e e2, posP_sub e e2, Nat.add_assoc _ _ (szR r), ← szRs_take e3]
    by_cases q : j + 1 < x.length
    · rw [if_pos q]
      have hq : rowP rs (.sub p b (j + 1)) = some x[j + 1] := by
        show ((rowP rs p).bind fun r => ((innerR r)[b]?).bind fun x => x[j + 1]?) = _
        rw [e]
        show ((innerR r0)[b]?).bind (fun x => x[j + 1]?) = _
        rw [e2]
        exact List.getElem?_eq_getElem q
      refine ⟨0, ?_⟩
      have g := jm_row hq
      rw [posP_sub e e2] at g
      show Jm _ 0 _ (posP rs (.sub p b (j + 1)))
      rw [posP_sub e e2]
      exact g
    · rw [if_neg q, List.take_of_length_le (by omega)]
      refine jm_tail e e2 ?_
      by_cases l : isLoop r0 = true
      · rw [if_pos l, if_pos l]
        exact ⟨0, jm_row e⟩
      · rw [if_neg l, if_neg l]
        exact behind_jm p r0 e
theorem into_jm {rs : List Row} {p : Pl} {r : Row} {b : Nat} {x : List Row} (h : rowP rs p = some r) (hx : (innerR r)[b]? = some x) : ∃ n, Jm (codeRs [] 0 0 rs) n (posP rs p + brOf r b) (posO rs (intoP rs p r b x)) := by
  unfold intoP
  cases x with
  | nil =>
    rw [if_pos (show ([] : List Row).isEmpty = true from rfl)]
    refine jm_tail (x := []) h hx ?_
    by_cases l : isLoop r = true
    · rw [if_pos l, if_pos l]
      exact ⟨0, jm_row h⟩
    · rw [if_neg l, if_neg l]
      exact behind_jm p r h
  | cons r1 x =>
    rw [if_neg (by simp)]
    have hq : rowP rs (.sub p b 0) = some r1 := by
      show ((rowP rs p).bind fun r => ((innerR r)[b]?).bind fun x => x[0]?) = _
      rw [h]
      show ((innerR r)[b]?).bind (fun x => x[0]?) = _
      rw [hx]
      rfl
    have g := jm_row hq
    refine ⟨0, ?_⟩
    show Jm _ 0 _ (posP rs (.sub p b 0))
    rw [posP_sub h hx] at g ⊢
    exact g
theorem first_jm (rs : List Row) : ∃ n, Jm (codeRs [] 0 0 rs) n 0 (posO rs (firstP rs)) := by
  unfold firstP
  cases rs with
  | nil => exact ⟨0, jm_end⟩
  | cons r rs => exact ⟨0, jm_row (p := .top 0) (rs := r :: rs) rfl⟩
theorem jm_le {rs : List Row} {p : Pl} {r : Row} (h : rowP rs p = some r) : posP rs p < szRs rs := by
  have : (codeRs [] 0 0 rs)[posP rs p]? ≠ none := by
    cases r with
    | put _ _ => rw [code_row h rfl]; exact fun z => by cases z
    | say _ => rw [code_row h rfl]; exact fun z => by cases z
    | loop _ _ _ => rw [code_loop h]; exact fun z => by cases z
    | ite _ _ _ => rw [code_ite h]; exact fun z => by cases z
  have e := (List.getElem?_eq_some_iff (l := codeRs [] 0 0 rs) (i := posP rs p) (a := ((codeRs [] 0 0 rs)[posP rs p]?).get (Option.isSome_iff_ne_none.mpr this))).mp (by simp)
  obtain ⟨e, _⟩ := e
  rw [codeRs_sz] at e
  exact e
end DL

/-! Tasks told, places as data; what is kept and looked at again. -/
namespace DL
open PySem L2
local macro_rules | `(tactic| walk_at "w") => `(tactic| conv => whnf)
def encTkF (t : Tk) : D := encTk t (.lst (encSs t.words))
def encF (ts : List Tk) : List D := ts.map encTkF
theorem encTkF_hd {n : Nat} (t : Tk) : Hd n (encTkF t) := .tup (.cons (encPc_hd _) (.cons (.tup (encB_hd _)) (.cons (encPc_hd _) (.cons (.int _) (.cons (.int _) (.cons (.lst (encSs_hd _)) .nil))))))
theorem encF_hd {n : Nat} (ts : List Tk) : HdL n (encF ts) := HdL.of fun d hd => by
  obtain ⟨p, _, rfl⟩ := List.mem_map.mp hd
  exact encTkF_hd p
theorem encF_length (ts : List Tk) : (encF ts).length = ts.length := List.length_map ..
theorem encF_append (a b : List Tk) : encF (a ++ b) = encF a ++ encF b := by unfold encF; rw [List.map_append]
/-! places as data for == -/
def pPc (l : List Nat) : PyData := .tuple (l.map fun i => .int (i : Nat))
theorem py_Pc (l : List Nat) : Py 2 (encPc l) (pPc l) := .tup (PyAll.map _ _ l fun i _ => Py.int _)
theorem eqv_Pc : ∀ (a b : List Nat), PyData.eqv (pPc a) (pPc b) = decide (a = b) := by
  intro a b
  unfold pPc
  rw [eqv_tup]
  induction a generalizing b with
  | nil =>
    cases b with
    | nil => rw [List.map_nil, eqvAll_nil]; rfl
    | cons y b => rw [List.map_nil, List.map_cons, eqvAll_r]; exact (decide_eq_false (by simp)).symm
  | cons x a ih =>
    cases b with
    | nil => rw [List.map_nil, List.map_cons, eqvAll_l]; exact (decide_eq_false (by simp)).symm
    | cons y b =>
      rw [List.map_cons, List.map_cons, eqvAll_cons, ih, eqv_int]
      by_cases q : x = y
      · by_cases z : a = b
        · rw [decide_eq_true (by omega : ((x : Nat) : Int) = (y : Nat)), decide_eq_true z, decide_eq_true (by rw [q, z])]; rfl
        · rw [decide_eq_false z, Bool.and_false, decide_eq_false]; exact fun e => z (by injection e)
      · rw [decide_eq_false (by omega : ¬ ((x : Nat) : Int) = (y : Nat)), Bool.false_and, decide_eq_false]; exact fun e => q (by injection e)
theorem list_ne (p : Pl) : p.list ≠ [] := fun e => by
  have := list_len p
  rw [e] at this
  simp at this
  omega
theorem encB_len (l : List Bool) : (encB l).length = l.length := List.length_map ..
theorem ne_if_put : ¬ (("if" : Str) = "put") := by decide +kernel
theorem ne_loop_put : ¬ (("loop" : Str) = "put") := by decide +kernel
theorem ne_loop_if : ¬ (("loop" : Str) = "if") := by decide +kernel
theorem ne_say_put : ¬ (("say" : Str) = "put") := by decide +kernel
theorem ne_say_if : ¬ (("say" : Str) = "if") := by decide +kernel
theorem ne_say_loop : ¬ (("say" : Str) = "loop") := by decide +kernel
theorem ne_loop_say : ¬ (("loop" : Str) = "say") := by decide +kernel
end DL

/-! What is due: the law's list of all tasks. -/
namespace DL
open PySem L2
local macro_rules | `(tactic| walk_at "w") => `(tactic| conv => whnf)
theorem enough_more {rs : List Row} : ∀ (f i : Nat) (o : Option Pl), enough rs f i o → enough rs (f + 1) i o
  | 0, _, _, h => h.elim
  | f + 1, i, none, _ => trivial
  | f + 1, i, some p, h => by
    unfold enough at h
    unfold enough
    cases e : rowP rs p with
    | none => rw [e] at h; exact h.elim
    | some r =>
      rw [e] at h
      cases r with
      | put b s => exact enough_more f i _ h
      | say s => exact enough_more f i _ h
      | ite s a b => exact ⟨h.1, enough_more f (i - 1) _ h.2.1, enough_more f (i - 1) _ h.2.2⟩
      | loop s ws b => exact trivial
theorem onw_more {n : Nat} {tp : List Nat} {rs : List Row} : ∀ (f i : Nat) (o : Option Pl) (w : WayS), enough rs f i o → onw n tp rs (f + 1) o w = onw n tp rs f o w
  | 0, _, _, _, h => h.elim
  | f + 1, i, none, w, _ => rfl
  | f + 1, i, some p, w, h => by
    unfold enough at h
    rw [onw, onw]
    cases e : rowP rs p with
    | none => rfl
    | some r =>
      rw [e] at h
      cases r with
      | put b s => exact onw_more f i _ _ h
      | say s => exact congrArg _ (onw_more f i _ _ h)
      | ite s a b =>
        show onw n tp rs (f + 1) _ _ ++ onw n tp rs (f + 1) _ _ = onw n tp rs f _ _ ++ onw n tp rs f _ _
        rw [onw_more f (i - 1) _ _ h.2.1, onw_more f (i - 1) _ _ h.2.2]
      | loop s ws b => rfl
theorem pl_inj : ∀ (p q : Pl), p.list = q.list → p = q
  | .top i, .top j, h => by have : i = j := by injection h
                            rw [this]
  | .top i, .sub q b j, h => by
    have := congrArg List.length h
    rw [list_len, list_len] at this
    have e : (Pl.sub q b j).dep = q.dep + 1 := rfl
    have e2 : (Pl.top i).dep = 0 := rfl
    omega
  | .sub q b j, .top i, h => by
    have := congrArg List.length h
    rw [list_len, list_len] at this
    have e : (Pl.sub q b j).dep = q.dep + 1 := rfl
    have e2 : (Pl.top i).dep = 0 := rfl
    omega
  | .sub p b j, .sub q c k, h => by
    have h' : p.list ++ [b, j] = q.list ++ [c, k] := h
    obtain ⟨h1, h2⟩ := List.append_inj' h' rfl
    rw [pl_inj p q h1]
    injection h2 with h3 h4
    injection h4 with h5 _
    rw [h3, h5]
def rowI : Ins → Option (Row × List Nat)
  | .row r pl => some (r, pl)
  | .br r pl _ => some (r, pl)
  | .jmp _ _ => none
def loopI (x : Ins) : List (List Nat) := match rowI x with
  | some (r, pl) => if isLoop r then [pl] else []
  | none => []
mutual
theorem loopI_R : ∀ (r : Row) (pl : List Nat) (s0 : Nat), (codeR pl s0 r).flatMap loopI = loopsR pl r
  | .put _ _, _, _ => rfl
  | .say _, _, _ => rfl
  | .ite s a b, pl, s0 => by
    show (Ins.br (.ite s a b) pl _ :: (codeRs (pl ++ [0]) 0 (s0 + 1) a ++ .jmp pl _ :: codeRs (pl ++ [1]) 0 (s0 + 1 + (codeRs (pl ++ [0]) 0 (s0 + 1) a).length + 1) b)).flatMap loopI = loopsRs (pl ++ [0]) 0 a ++ loopsRs (pl ++ [1]) 0 b
    rw [List.flatMap_cons, List.flatMap_append, List.flatMap_cons, loopI_Rs a, loopI_Rs b]
    rfl
  | .loop s ws b, pl, s0 => by
    show (Ins.br (.loop s ws b) pl _ :: (codeRs (pl ++ [0]) 0 (s0 + 1) b ++ [.jmp pl s0])).flatMap loopI = pl :: loopsRs (pl ++ [0]) 0 b
    rw [List.flatMap_cons, List.flatMap_append, loopI_Rs b]
    show [pl] ++ (_ ++ []) = _
    rw [List.append_nil]
    rfl
theorem loopI_Rs : ∀ (rs : List Row) (ahead : List Nat) (k s0 : Nat), (codeRs ahead k s0 rs).flatMap loopI = loopsRs ahead k rs
  | [], _, _, _ => rfl
  | r :: rs, ahead, k, s0 => by
    show (codeR (ahead ++ [k]) s0 r ++ codeRs ahead (k + 1) (s0 + (codeR (ahead ++ [k]) s0 r).length) rs).flatMap loopI = loopsR (ahead ++ [k]) r ++ loopsRs ahead (k + 1) rs
    rw [List.flatMap_append, loopI_R r, loopI_Rs rs]
end
/-- a deed's row stands in the program, and the deed there -/
def PlOk (rs0 : List Row) (x : Ins) (a : Nat) : Prop := ∀ r pl, rowI x = some (r, pl) → ∃ q : Pl, q.list = pl ∧ rowP rs0 q = some r ∧ posP rs0 q = a
theorem plOk_jmp {rs0 : List Row} {pl : List Nat} {t a : Nat} : PlOk rs0 (.jmp pl t) a := fun _ _ h => by cases h
theorem rowP_of {rs : List Row} {p : Pl} {b j : Nat} {r0 : Row} {x : List Row} (e : rowP rs p = some r0) (e2 : (innerR r0)[b]? = some x) : rowP rs (.sub p b j) = x[j]? := by
  show ((rowP rs p).bind fun r => ((innerR r)[b]?).bind fun x => x[j]?) = _
  rw [e]
  show ((innerR r0)[b]?).bind (fun x => x[j]?) = _
  rw [e2]
  rfl
mutual
theorem place_R (rs0 : List Row) : ∀ (r : Row) (p : Pl), rowP rs0 p = some r → ∀ (i : Nat) (x : Ins), (codeR p.list (posP rs0 p) r)[i]? = some x → PlOk rs0 x (posP rs0 p + i)
  | .put b s, p, e, i, x, h => by
    cases i with
    | zero => cases h; exact fun r pl z => by cases z; exact ⟨p, rfl, e, rfl⟩
    | succ i => cases h
  | .say s, p, e, i, x, h => by
    cases i with
    | zero => cases h; exact fun r pl z => by cases z; exact ⟨p, rfl, e, rfl⟩
    | succ i => cases h
  | .ite s a b, p, e, i, x, h => by
    cases i with
    | zero => cases h; exact fun r pl z => by cases z; exact ⟨p, rfl, e, rfl⟩
    | succ i =>
      have h' : (codeRs (p.list ++ [0]) 0 (posP rs0 p + 1) a ++ Ins.jmp p.list (posP rs0 p + 1 + (codeRs (p.list ++ [0]) 0 (posP rs0 p + 1) a).length + 1 + (codeRs (p.list ++ [1]) 0 (posP rs0 p + 1 + (codeRs (p.list ++ [0]) 0 (posP rs0 p + 1) a).length + 1) b).length) :: codeRs (p.list ++ [1]) 0 (posP rs0 p + 1 + (codeRs (p.list ++ [0]) 0 (posP rs0 p + 1) a).length + 1) b)[i]? = some x := h
      by_cases q : i < (codeRs (p.list ++ [0]) 0 (posP rs0 p + 1) a).length
      · rw [List.getElem?_append_left q] at h'
        have g := place_Rs rs0 a (fun j => .sub p 0 j) (p.list ++ [0]) 0 (posP rs0 p + 1) (fun j => by rw [Nat.zero_add]; exact rowP_of e rfl) (fun j => by show p.list ++ [0, j] = _; simp) (fun j => by rw [Nat.zero_add]; exact posP_sub e rfl) i x h'
        rw [show posP rs0 p + (i + 1) = posP rs0 p + 1 + i from by omega]
        exact g
      · rw [List.getElem?_append_right (by omega)] at h'
        cases k : i - (codeRs (p.list ++ [0]) 0 (posP rs0 p + 1) a).length with
        | zero => rw [k] at h'; cases h'; exact plOk_jmp
        | succ k' =>
          rw [k] at h'
          rw [codeRs_sz] at k h'
          have g := place_Rs rs0 b (fun j => .sub p 1 j) (p.list ++ [1]) 0 (posP rs0 p + 1 + szRs a + 1) (fun j => by rw [Nat.zero_add]; exact rowP_of e rfl) (fun j => by show p.list ++ [1, j] = _; simp) (fun j => by rw [Nat.zero_add, posP_sub e rfl]; show posP rs0 p + (1 + szRs a + 1) + _ = _; omega) k' x h'
          rw [show posP rs0 p + (i + 1) = posP rs0 p + 1 + szRs a + 1 + k' from by omega]
          exact g
  | .loop s ws b, p, e, i, x, h => by
    cases i with
    | zero => cases h; exact fun r pl z => by cases z; exact ⟨p, rfl, e, rfl⟩
    | succ i =>
      have h' : (codeRs (p.list ++ [0]) 0 (posP rs0 p + 1) b ++ [Ins.jmp p.list (posP rs0 p)])[i]? = some x := h
      by_cases q : i < (codeRs (p.list ++ [0]) 0 (posP rs0 p + 1) b).length
      · rw [List.getElem?_append_left q] at h'
        have g := place_Rs rs0 b (fun j => .sub p 0 j) (p.list ++ [0]) 0 (posP rs0 p + 1) (fun j => by rw [Nat.zero_add]; exact rowP_of e rfl) (fun j => by show p.list ++ [0, j] = _; simp) (fun j => by rw [Nat.zero_add]; exact posP_sub e rfl) i x h'
        rw [show posP rs0 p + (i + 1) = posP rs0 p + 1 + i from by omega]
        exact g
      · rw [List.getElem?_append_right (by omega)] at h'
        cases k : i - (codeRs (p.list ++ [0]) 0 (posP rs0 p + 1) b).length with
        | zero => rw [k] at h'; cases h'; exact plOk_jmp
        | succ k' => rw [k] at h'; cases h'
theorem place_Rs (rs0 : List Row) : ∀ (xs : List Row) (mk : Nat → Pl) (ahead : List Nat) (k s0 : Nat), (∀ j, rowP rs0 (mk (k + j)) = xs[j]?) → (∀ j, (mk j).list = ahead ++ [j]) → (∀ j, posP rs0 (mk (k + j)) = s0 + szRs (xs.take j)) → ∀ (i : Nat) (x : Ins), (codeRs ahead k s0 xs)[i]? = some x → PlOk rs0 x (s0 + i)
  | [], _, _, _, _, _, _, _, _, _, h => by cases h
  | r :: xs, mk, ahead, k, s0, e, l, hp, i, x, h => by
    have h' : (codeR (ahead ++ [k]) s0 r ++ codeRs ahead (k + 1) (s0 + (codeR (ahead ++ [k]) s0 r).length) xs)[i]? = some x := h
    have p0 : posP rs0 (mk k) = s0 := hp 0
    by_cases q : i < (codeR (ahead ++ [k]) s0 r).length
    · rw [List.getElem?_append_left q, ← l k, ← p0] at h'
      have g := place_R rs0 r (mk k) (e 0) i x h'
      rw [p0] at g
      exact g
    · rw [List.getElem?_append_right (by omega)] at h'
      rw [codeR_sz] at h' q
      have g := place_Rs rs0 xs mk ahead (k + 1) (s0 + szR r) (fun j => by have := e (j + 1); rw [show k + 1 + j = k + (j + 1) from by omega]; exact this) l (fun j => by
        have := hp (j + 1)
        rw [show k + 1 + j = k + (j + 1) from by omega, this]
        show s0 + (szR r + szRs (xs.take j)) = _
        omega) (i - szR r) x h'
      rw [show s0 + i = s0 + szR r + (i - szR r) from by omega]
      exact g
end
theorem place_all {rs : List Row} {i : Nat} {x : Ins} (h : (codeRs [] 0 0 rs)[i]? = some x) : PlOk rs x i := by
  have g := place_Rs rs rs Pl.top [] 0 0 (fun j => by rw [Nat.zero_add]; rfl) (fun j => rfl) (fun j => by rw [Nat.zero_add, Nat.zero_add]; rfl) i x h
  rw [Nat.zero_add] at g
  exact g
/-- on to what follows: told so, that the kernel needn't find it -/
theorem seq_nx {X : DSt → Own → Prop} {rt : D → Own → Prop} {bk ct : DSt → Own → Prop} {δ : DSt} {O : Own} (h : X δ O) : dNext { nx := X, rt := rt, bk := bk, ct := ct } δ O := h
theorem ok_jump : PyData.strOk "jump" = true := by decide +kernel
def tagI : Ins → Str
  | .row r _ => tagR r
  | .br r _ _ => tagR r
  | .jmp _ _ => "jump"
theorem encIn_tup (x : Ins) : ∃ tl, encIn x = .tup (.str (tagI x) :: tl) := by cases x <;> exact ⟨_, rfl⟩
theorem tagI_ok : ∀ x : Ins, PyData.strOk (tagI x) = true
  | .row r _ => tag_ok r
  | .br r _ _ => tag_ok r
  | .jmp _ _ => ok_jump
theorem tagR_jump : ∀ r : Row, decide (tagR r = "jump") = false
  | .put _ _ => (by decide +kernel : decide (("put" : Str) = "jump") = false)
  | .say _ => (by decide +kernel : decide (("say" : Str) = "jump") = false)
  | .ite _ _ _ => (by decide +kernel : decide (("if" : Str) = "jump") = false)
  | .loop _ _ _ => (by decide +kernel : decide (("loop" : Str) = "jump") = false)
theorem jm_stop {code : List Ins} {n a b : Nat} (h : Jm code n a b) : ∀ pl t, code[b]? ≠ some (.jmp pl t) := by
  induction h with
  | stop h => exact h
  | go _ _ ih => exact ih
/-- the jumps of a walk: what is wanted of a while over them -/
theorem jm_while {code : List Ins} {n a b : Nat} (h : Jm code n a b) : (n = 0 ∧ a = b) ∨ ∃ m t pl, n = m + 1 ∧ code[a]? = some (.jmp pl t) ∧ Jm code m t b := by
  cases h with
  | stop h => exact .inl ⟨rfl, rfl⟩
  | go h g => exact .inr ⟨_, _, _, rfl, h, g⟩
theorem tag_notjump {x : Ins} (h : ∀ pl t, x ≠ .jmp pl t) : decide (tagI x = "jump") = false := by
  cases x with
  | row r pl => exact tagR_jump r
  | br r pl t => exact tagR_jump r
  | jmp pl t => exact (h pl t rfl).elim
def isLoopI (x : Ins) : Bool := match rowI x with
  | some (r, _) => isLoop r
  | none => false
theorem tagI_loop : ∀ x : Ins, decide (tagI x = "loop") = isLoopI x
  | .row r _ => tag_loop r
  | .br r _ _ => tag_loop r
  | .jmp _ _ => (by decide +kernel : decide (("jump" : Str) = "loop") = false)
theorem loopI_of {x : Ins} (h : isLoopI x = false) : loopI x = [] := by
  cases x with
  | jmp pl t => rfl
  | row r pl => show (if isLoop r then [pl] else []) = []; rw [if_neg (by rw [show isLoop r = false from h]; exact Bool.false_ne_true)]
  | br r pl t => show (if isLoop r then [pl] else []) = []; rw [if_neg (by rw [show isLoop r = false from h]; exact Bool.false_ne_true)]
theorem loopI_at {rs : List Row} {a : Nat} {x : Ins} (h : (codeRs [] 0 0 rs)[a]? = some x) (hl : isLoopI x = true) : ∃ (q : Pl) (s : Sm) (ws : List Sm) (b : List Row), rowP rs q = some (.loop s ws b) ∧ posP rs q = a ∧ x = .br (.loop s ws b) q.list (posP rs q + szR (.loop s ws b)) ∧ loopI x = [q.list] := by
  have pk := place_all h
  unfold isLoopI at hl
  cases e : rowI x with
  | none => rw [e] at hl; cases hl
  | some rp =>
    obtain ⟨r, pl⟩ := rp
    rw [e] at hl
    obtain ⟨q, e1, e2, e3⟩ := pk r pl e
    cases r with
    | put _ _ => cases hl
    | say _ => cases hl
    | ite _ _ _ => cases hl
    | loop s ws b =>
      have c := code_loop e2
      rw [e3, h] at c
      refine ⟨q, s, ws, b, e2, e3, ?_, ?_⟩
      · rw [e3]; exact Option.some.inj c
      · unfold loopI
        rw [e, e1]
        rfl
end DL

/-! What is kept and looked at again. -/
namespace DL
open PySem L2
local macro_rules | `(tactic| walk_at "w") => `(tactic| conv => whnf)
/-- what was told, each beside a copy -/
def kd (x : Nat × List D) : D := .tup [.own x.1, .lst x.2]
structure Kept (O : Own) (hk : Nat) (items : List (Nat × List D)) : Prop where
  at_ : O[hk]? = some (some (.lst (items.map kd)))
  good : ∀ x ∈ items, x.1 ≠ hk ∧ O[x.1]? = some (some (.lst x.2)) ∧ ∃ ps, PyAll 38 x.2 ps
theorem Kept.lt {O : Own} {hk : Nat} {items : List (Nat × List D)} (h : Kept O hk items) : hk < O.length := (List.getElem?_eq_some_iff.mp h.at_).1
theorem Kept.ltx {O : Own} {hk : Nat} {items : List (Nat × List D)} (h : Kept O hk items) : ∀ x ∈ items, x.1 < O.length := fun x hx => (List.getElem?_eq_some_iff.mp (h.good x hx).2.1).1
theorem Kept.keep {O O' : Own} {hk : Nat} {items : List (Nat × List D)} (h : Kept O hk items) (k : ∀ i, i < O.length → O'[i]? = O[i]?) : Kept O' hk items :=
  ⟨by rw [k _ h.lt]; exact h.at_, fun x hx => ⟨(h.good x hx).1, by rw [k _ (h.ltx x hx)]; exact (h.good x hx).2.1, (h.good x hx).2.2⟩⟩
theorem Kept.up {O l : Own} {hk : Nat} {items : List (Nat × List D)} (h : Kept O hk items) : Kept (O ++ l) hk items := h.keep fun i hi => low_get hi
theorem Kept.set {O : Own} {hk g : Nat} {v : Option DO} {items : List (Nat × List D)} (h : Kept O hk items) (n : g ≠ hk) (k : ∀ x ∈ items, x.1 ≠ g) : Kept (O.set g v) hk items :=
  ⟨by rw [List.getElem?_set_ne n]; exact h.at_, fun x hx => ⟨(h.good x hx).1, by rw [List.getElem?_set_ne (fun z => k x hx z.symm)]; exact (h.good x hx).2.1, (h.good x hx).2.2⟩⟩
theorem Kept.add {O : Own} {hk g : Nat} {ds : List D} {items : List (Nat × List D)} (h : Kept O hk items) (n : g ≠ hk) (e : O[g]? = some (some (.lst ds))) (p : ∃ ps, PyAll 38 ds ps) : Kept (O.set hk (some (.lst (items.map kd ++ [.tup [.own g, .lst ds]])))) hk (items ++ [(g, ds)]) := by
  refine ⟨by rw [List.getElem?_set_self h.lt, List.map_append]; rfl, fun x hx => ?_⟩
  rcases List.mem_append.mp hx with z | z
  · obtain ⟨a, b, c⟩ := h.good x z
    exact ⟨a, by rw [List.getElem?_set_ne (fun z => a z.symm)]; exact b, c⟩
  · rw [List.mem_singleton.mp z]
    exact ⟨n, by rw [List.getElem?_set_ne (fun z => n z.symm)]; exact e, p⟩
/-- all but one thing, and what is new, is as it was -/
structure Ext (hk : Nat) (O O' : Own) : Prop where
  len : O.length ≤ O'.length
  eq : ∀ k, k < O.length → k ≠ hk → O'[k]? = O[k]?
theorem Ext.refl {hk : Nat} {O : Own} : Ext hk O O := ⟨Nat.le_refl _, fun _ _ _ => rfl⟩
theorem Ext.trans {hk : Nat} {O O' O'' : Own} (a : Ext hk O O') (b : Ext hk O' O'') : Ext hk O O'' := ⟨Nat.le_trans a.len b.len, fun k h n => by rw [b.eq k (Nat.lt_of_lt_of_le h a.len) n, a.eq k h n]⟩
theorem Ext.up {hk : Nat} {O l : Own} : Ext hk O (O ++ l) := ⟨by simp, fun k h _ => low_get h⟩
theorem Ext.set {hk : Nat} {O : Own} {v : Option DO} : Ext hk O (O.set hk v) := ⟨by simp, fun k _ n => List.getElem?_set_ne (fun z => n z.symm)⟩
theorem Ext.set2 {hk g : Nat} {O O' : Own} {v : Option DO} (h : Ext hk O O') (hg : O.length ≤ g) : Ext hk O (O'.set g v) := ⟨by rw [List.length_set]; exact h.len, fun k hk' n => by rw [List.getElem?_set_ne (by omega)]; exact h.eq k hk' n⟩
def asksI (x : Ins) : Bool := match rowI x with
  | some (r, _) => asks r
  | none => false
theorem tag_asks : ∀ r : Row, ((["say", "loop"] : List Str).any fun y => y == tagR r) = asks r
  | .put _ _ => (by decide +kernel : ((["say", "loop"] : List Str).any fun y => y == ("put" : Str)) = false)
  | .say _ => (by decide +kernel : ((["say", "loop"] : List Str).any fun y => y == ("say" : Str)) = true)
  | .ite _ _ _ => (by decide +kernel : ((["say", "loop"] : List Str).any fun y => y == ("if" : Str)) = false)
  | .loop _ _ _ => (by decide +kernel : ((["say", "loop"] : List Str).any fun y => y == ("loop" : Str)) = true)
theorem tagI_asks : ∀ x : Ins, ((["say", "loop"] : List Str).any fun y => y == tagI x) = asksI x
  | .row r _ => tag_asks r
  | .br r _ _ => tag_asks r
  | .jmp _ _ => (by decide +kernel : ((["say", "loop"] : List Str).any fun y => y == ("jump" : Str)) = false)
theorem encIn_row {x : Ins} {r : Row} {pl : List Nat} (h : rowI x = some (r, pl)) : ∃ tl, encIn x = .tup (.str (tagR r) :: encPc pl :: encR r :: tl) := by
  cases x with
  | jmp pl t => cases h
  | row r pl => cases h; exact ⟨_, rfl⟩
  | br r pl t => cases h; exact ⟨_, rfl⟩
theorem asks_at {rs : List Row} {a : Nat} {x : Ins} (h : (codeRs [] 0 0 rs)[a]? = some x) (hl : asksI x = true) : ∃ (q : Pl) (r : Row), rowP rs q = some r ∧ posP rs q = a ∧ asks r = true ∧ rowI x = some (r, q.list) := by
  have pk := place_all h
  unfold asksI at hl
  cases e : rowI x with
  | none => rw [e] at hl; cases hl
  | some rp =>
    obtain ⟨r, pl⟩ := rp
    rw [e] at hl
    obtain ⟨q, e1, e2, e3⟩ := pk r pl e
    exact ⟨q, r, e2, e3, hl, by rw [e1]⟩
theorem py_Ss (ws : List Sm) : PyAll 3 (encSs ws) (ws.map pS) := PyAll.map encS pS ws fun s _ => py_S s
theorem py_own {O : Own} {h n : Nat} {ds : List D} {ps : List PyData} (e : O[h]? = some (some (.lst ds))) (p : pyL (pyD O n) ds = some ps) : pyD O (n + 1) (.own h) = some (.list ps) := by
  show (match O[h]? with | some (some (.lst ds)) => (pyL (pyD O n) ds).map PyData.list | _ => none) = _
  rw [e]
  show (pyL (pyD O n) ds).map PyData.list = _
  rw [p]
  rfl
theorem tyD_own {O : Own} {h : Nat} {ds : List D} (e : O[h]? = some (some (.lst ds))) : tyD O (.own h) = some .lst := by unfold tyD; dsimp only; rw [e]
theorem asL_own {O : Own} {h : Nat} {ds : List D} (e : O[h]? = some (some (.lst ds))) : asL O (.own h) = some ds := by unfold asL; dsimp only; rw [e]
theorem oKi {α : Type} {o : Option α} {a : α} {k : α → Prop} (e : o = some a) (h : k a) : oK o k := by rw [e]; exact h
theorem eqv_py {n : Nat} {d : D} {p : PyData} (h : Py n d p) : PyData.eqv p p = true := pyD_refl (O := []) n d p (h [] n (Nat.le_refl _))
theorem py_told (ws : List Sm) (i : Int) : ∃ ps, PyAll 38 (encSs ws ++ [D.int i]) ps := ⟨_, ((py_Ss ws).mono (by decide)).append (.cons ((Py.int i).mono (by decide)) (.nil _))⟩
theorem py_H {O : Own} {n : Nat} (hn : 8 ≤ n) : ∀ (ts : List Tk) (hs : List Nat), hs.length = ts.length → (∀ (i : Nat) (t : Tk) (k : Nat), ts[i]? = some t → hs[i]? = some k → O[k]? = some (some (.lst (encSs t.words)))) → pyL (pyD O n) (encH ts hs) = some (ts.map pTk)
  | [], [], _, _ => rfl
  | t :: ts, k :: hs, hl, hw => by
    obtain ⟨j, rfl⟩ : ∃ j, n = j + 2 := ⟨n - 2, by omega⟩
    have h0 : pyD O (j + 2) (encTk t (.own k)) = some (pTk t) := py_Tk (n := 0) (by omega) (py_own (hw 0 t k rfl rfl) (py_Ss t.words O j (by omega)))
    have h1 := py_H (n := j + 2) hn ts hs (by simpa using hl) (fun i t k a b => hw (i + 1) t k a b)
    show (match pyD O (j + 2) (encTk t (.own k)), pyL (pyD O (j + 2)) (encH ts hs) with | some p, some ps => some (p :: ps) | _, _ => none) = _
    rw [h0, h1]
    rfl
  | [], _ :: _, h, _ => by simp at h
  | _ :: _, [], h, _ => by simp at h
theorem py_F (ts : List Tk) : PyAll 10 (encF ts) (ts.map pTk) := PyAll.map encTkF pTk ts fun t _ => py_TkF t
theorem Ext.take {hk : Nat} {O O' : Own} (h : Ext hk O O') (l : O.length ≤ hk) : O'.take O.length = O := by
  refine List.ext_getElem? fun i => ?_
  by_cases q : i < O.length
  · rw [List.getElem?_take_of_lt q]
    exact h.eq i q (by omega)
  · rw [List.getElem?_eq_none (by rw [List.length_take]; omega), List.getElem?_eq_none (by omega)]
theorem zip_get {α β : Type} : ∀ {as : List α} {bs : List β} {i : Nat} {x : α × β}, (as.zip bs)[i]? = some x → as[i]? = some x.1 ∧ bs[i]? = some x.2
  | [], _, i, x, h => by simp at h
  | _ :: _, [], i, x, h => by simp at h
  | a :: as, b :: bs, 0, x, h => by simp at h; rw [← h]; exact ⟨rfl, rfl⟩
  | a :: as, b :: bs, i + 1, x, h => by
    have := zip_get (as := as) (bs := bs) (i := i) (x := x) (by simpa using h)
    exact ⟨by simpa using this.1, by simpa using this.2⟩
theorem seq_i {t u : DS} {E : DEnds} {δ : DSt} {O : Own} (h : t { E with nx := u E } δ O) : dSeq t u E δ O := h
end DL

/-! Within, the whole stretch, trees tried with a filling of one's own. -/
namespace DL
open PySem L2
local macro_rules | `(tactic| walk_at "w") => `(tactic| conv => whnf)
def N_is_within : List Str := ["program", "filling", "held", "top"]
def R_is_within (cProgram : Addr) : DS :=
  (dSeq (dFor (diZip (dVar 1) (dFld cProgram (dVar 0) "tops")) (dgTup 2 (dgCons (dgName 2) (dgCons (dgName 3) dgNil))) (dIfS (dNot (dTest (dChain leD leD (dC (.int 0)) (dVar 2) (dVar 3)))) (dRet (dC (.bl false))) dNext))
  (dRet (dC (.bl true))))
def withinB : List Nat → List Int → Bool
  | t :: tp, x :: f => decide (0 ≤ x) && decide (x ≤ (t : Nat)) && withinB tp f
  | _, _ => true
def S_is_within (C : Addr) : DSp := fun ds O R => ∃ (tp : List Nat) (rs : List Row) (f : List Int) (d : D), ds = [encPr C tp rs, d] ∧ asL O d = some (encI f) ∧ R (.bl (withinB tp f)) O
theorem len_is_within (C : Addr) (ds : List D) (O : Own) (R : D → Own → Prop) (h : S_is_within C ds O R) : ds.length = 2 := by obtain ⟨_, _, _, _, rfl, _⟩ := h; rfl
theorem within_loop {E : DEnds} {O : Own} {d0 d1 : Option D} {chk : Own → Prop} {R : D → Own → Prop} (hc : chk O) (hE : E.rt = Pure O R) : ∀ (f : List Int) (tp : List Nat) (a b : Option D), (withinB tp f = true → ∀ a b, E.nx [d0, d1, a, b] O) → (withinB tp f = false → R (.bl false) O) →
    forL (dgTup 2 (dgCons (dgName 2) (dgCons (dgName 3) dgNil))) (dIfS (dNot (dTest (dChain leD leD (dC (.int 0)) (dVar 2) (dVar 3)))) (dRet (dC (.bl false))) dNext) chk E (zipD (encI f) (encN tp)) [d0, d1, a, b] O
  | [], [], a, b, h1, _ => ⟨hc, h1 rfl a b⟩
  | [], t :: tp, a, b, h1, _ => ⟨hc, h1 rfl a b⟩
  | x :: f, [], a, b, h1, _ => ⟨hc, h1 rfl a b⟩
  | x :: f, t :: tp, a, b, h1, h2 => by
    refine ⟨hc, ?_⟩
    have e : withinB (t :: tp) (x :: f) = (decide (0 ≤ x) && decide (x ≤ (t : Nat)) && withinB tp f) := rfl
    rw [e] at h1 h2
    walk_at "w"
    refine ifD (fun e1 => ?_) (fun e1 => ?_)
    · walk_at "w"
      refine ifNB (decide_cases () (fun e2 => ?_) (fun e2 => ?_))
      · refine within_loop hc hE f tp _ _ (fun z a b => h1 ?_ a b) (fun z => h2 ?_)
        · rw [decide_eq_true e1, decide_eq_true e2, z]; rfl
        · rw [decide_eq_true e1, decide_eq_true e2, z]; rfl
      · walk_at "w"
        show E.rt (.bl false) O
        rw [hE]
        exact Pure.same (.bl _) (h2 (by rw [decide_eq_true e1, decide_eq_false e2]; rfl))
    · walk_at "w"
      show E.rt (.bl false) O
      rw [hE]
      exact Pure.same (.bl _) (h2 (by rw [decide_eq_false e1]; rfl))
theorem sem_is_within (C : Addr) (ds : List D) (O : Own) (R : D → Own → Prop) (h : S_is_within C ds O R) : R_is_within C { nx := fun _ O' => Pure O R .non O', rt := Pure O R } (startD N_is_within ds) O := by
  obtain ⟨tp, rs, f, d, rfl, h2, h⟩ := h
  walk_at "w"
  refine ⟨rfl, ?_⟩
  walk_at "w"
  rw [h2]
  refine within_loop ⟨h2, rfl⟩ rfl f tp none none (fun e a b => ?_) (fun e => ?_)
  · rw [e] at h
    exact Pure.same (.bl _) h
  · rw [e] at h
    exact h
def N_whole_stretch : List Str := ["program", "top"]
def R_whole_stretch (cProgram : Addr) : DS :=
  (dRet (dFrz (dLc (diL (dFld cProgram (dVar 0) "tops")) (dgName 1) dYes (dTup (dCons (dC (.int 0)) (dCons (dVar 1) dNil))) [1])))
def wholeSt (tp : List Nat) : List Pr := tp.map fun t => (0, ((t : Nat) : Int))
def S_whole_stretch (C : Addr) : DSp := fun ds O R => ∃ (tp : List Nat) (rs : List Row), ds = [encPr C tp rs] ∧ tp.length ≤ 100 ∧ R (.lst (encSt (wholeSt tp))) O
theorem len_whole_stretch (C : Addr) (ds : List D) (O : Own) (R : D → Own → Prop) (h : S_whole_stretch C ds O R) : ds.length = 1 := by obtain ⟨_, _, rfl, _⟩ := h; rfl
theorem sem_whole_stretch (C : Addr) (ds : List D) (O : Own) (R : D → Own → Prop) (h : S_whole_stretch C ds O R) : R_whole_stretch C { nx := fun _ O' => Pure O R .non O', rt := Pure O R } (startD N_whole_stretch ds) O := by
  obtain ⟨tp, rs, rfl, hl, h⟩ := h
  walk_at "w"
  refine ⟨rfl, ?_⟩
  walk_at "w"
  refine lc_list (O := O) (chk := fun O' => asL O' (.lst (encN tp)) = some (encN tp)) (fun t : Nat => D.int ((t : Nat) : Int)) (fun t : Nat => encP (0, ((t : Nat) : Int))) rfl tp [] (fun t _ Q q => ?_) (by simp; omega) ?_
  · exact q
  have e : ([] : List D) ++ tp.map (fun t : Nat => encP (0, ((t : Nat) : Int))) = encSt (wholeSt tp) := by unfold encSt wholeSt; rw [List.map_map]; rfl
  rw [e]
  exact Pure.same (.lst (encSt_hd _)) h
theorem whole_st {tp : List Nat} (h : TpOk tp) : (wholeSt tp).length = tp.length ∧ StB (wholeSt tp) ∧ (∀ p ∈ wholeSt tp, p.1 ≤ p.2) ∧ wid (wholeSt tp) ≤ 27 := by
  refine ⟨List.length_map .., fun p hp => ?_, fun p hp => ?_, ?_⟩
  · obtain ⟨t, ht, rfl⟩ := List.mem_map.mp hp
    have := h.le t ht
    refine ⟨⟨?_, ?_⟩, ?_, ?_⟩
    · show (-100 : Int) ≤ 0; decide
    · show (0 : Int) ≤ 100; decide
    · show (-100 : Int) ≤ ((t : Nat) : Int); omega
    · show ((t : Nat) : Int) ≤ 100; omega
  · obtain ⟨t, ht, rfl⟩ := List.mem_map.mp hp
    show (0 : Int) ≤ ((t : Nat) : Int)
    omega
  · have g : ∀ l : List Nat, (∀ t ∈ l, t ≤ 9) → wid (wholeSt l) ≤ 9 * l.length := by
      intro l
      induction l with
      | nil => intro _; exact Nat.le_refl _
      | cons t l ih =>
        intro hl
        have := ih fun x hx => hl x (List.mem_cons_of_mem _ hx)
        have := hl t List.mem_cons_self
        show (((t : Nat) : Int) - 0).toNat + wid (wholeSt l) ≤ 9 * (l.length + 1)
        omega
    have := g tp h.le
    have := h.few
    omega
theorem within_inSt : ∀ {tp : List Nat} {f : List Int}, f.length = tp.length → (withinB tp f = true ↔ inSt f (wholeSt tp))
  | [], [], _ => ⟨fun _ => trivial, fun _ => rfl⟩
  | [], _ :: _, h => by simp at h
  | _ :: _, [], h => by simp at h
  | t :: tp, x :: f, h => by
    have ih := within_inSt (tp := tp) (f := f) (by simpa using h)
    show (decide (0 ≤ x) && decide (x ≤ (t : Nat)) && withinB tp f) = true ↔ (0 ≤ x ∧ x ≤ ((t : Nat) : Int) ∧ inSt f (wholeSt tp))
    rw [Bool.and_eq_true, Bool.and_eq_true, decide_eq_true_iff, decide_eq_true_iff, ih, and_assoc]
/-! ### tried, the filling a list of one's own -/
def S_triedR : Nat → DSp
  | 0 => fun _ _ _ => False
  | n + 1 => fun ds O R => ∃ (st : List Pr) (ss : List Sm) (d1 d2 : D), ds = [d1, d2] ∧ asL O d1 = some (encSt st) ∧ asL O d2 = some (encSs ss) ∧ StOk st ss ∧ wid st < n + 1 ∧
    (∀ t : Tr, isT ss st t = true → t.dep ≤ n + 1 → R (.tup [encT t, .non]) O) ∧ ∀ f : List Int, inSt f st → (∀ s ∈ ss, valS s f ≤ 0) → R (.tup [.non, .own O.length]) (O ++ [some (.lst (encI f))])
def N_triedR : List Str := ["stretch", "some", "at", "box", "pair", "one", "middle", "below", "above"]
def R_triedR (n : Nat) : DS :=
  (dSeq (dAsg (dCall S_over (dCons (dVar 0) (dCons (dVar 1) dNil))) (dgName 2))
  (dSeq (dIfS (dTest (dOp ltD (dVar 2) (dCall1 lenD (dCons (dVar 1) dNil)))) (dRet (dTup (dCons (dTup (dCons (dC (.str "sum")) (dCons (dVar 2) dNil))) (dCons (dC .non) dNil)))) dNext)
  (dSeq (dAsg (dCall S_widest (dCons (dVar 0) dNil)) (dgName 3))
  (dSeq (dAsg (dOp ixD (dVar 0) (dVar 3)) (dgName 4))
  (dSeq (dIfS (dTest (dOp eqD (dOp ixD (dVar 4) (dC (.int 0))) (dOp ixD (dVar 4) (dC (.int 1))))) (dRet (dTup (dCons (dC .non) (dCons (dNew (dLc (diL (dVar 0)) (dgName 5) dYes (dOp ixD (dVar 5) (dC (.int 0))) [5])) dNil)))) dNext)
  (dSeq (dAsg (dOp divD (dOp addD (dOp ixD (dVar 4) (dC (.int 0))) (dOp ixD (dVar 4) (dC (.int 1)))) (dC (.int 2))) (dgName 6))
  (dSeq (dAsg (dCall (S_triedR n) (dCons (dCall S_with_pair (dCons (dVar 0) (dCons (dVar 3) (dCons (dTup (dCons (dOp ixD (dVar 4) (dC (.int 0))) (dCons (dVar 6) dNil))) dNil)))) (dCons (dVar 1) dNil))) (dgName 7))
  (dSeq (dIfS (dTest (dOp isD (dOp ixD (dVar 7) (dC (.int 0))) (dC .non))) (dRet (dVar 7)) dNext)
  (dSeq (dAsg (dCall (S_triedR n) (dCons (dCall S_with_pair (dCons (dVar 0) (dCons (dVar 3) (dCons (dTup (dCons (dOp addD (dVar 6) (dC (.int 1))) (dCons (dOp ixD (dVar 4) (dC (.int 1))) dNil))) dNil)))) (dCons (dVar 1) dNil))) (dgName 8))
  (dSeq (dIfS (dTest (dOp isD (dOp ixD (dVar 8) (dC (.int 0))) (dC .non))) (dRet (dVar 8)) dNext)
  (dRet (dTup (dCons (dTup (dCons (dC (.str "cut")) (dCons (dVar 3) (dCons (dVar 6) (dCons (dOp ixD (dVar 7) (dC (.int 0))) (dCons (dOp ixD (dVar 8) (dC (.int 0))) dNil)))))) (dCons (dC .non) dNil))))))))))))))
theorem len_triedR (n : Nat) (ds : List D) (O : Own) (R : D → Own → Prop) (h : S_triedR (n + 1) ds O R) : ds.length = 2 := by obtain ⟨_, _, _, _, rfl, _⟩ := h; rfl
theorem sem_triedR (n : Nat) (ds : List D) (O : Own) (R : D → Own → Prop) (h : S_triedR (n + 1) ds O R) : R_triedR n { nx := fun _ O' => R .non O', rt := R } (startD N_triedR ds) O := by
  obtain ⟨st, ss, d1, d2, rfl, h1, h2, ok, hw, ht, hf⟩ := h
  rcases asL_cases h1 with rfl | ⟨k1, rfl, -⟩ <;> rcases asL_cases h2 with rfl | ⟨k2, rfl, -⟩
  all_goals
    refine ⟨st, ss, _, _, rfl, h1, h2, ok.ssf, ok.ok, ok.bd, ?_⟩
    walk_at "w"
    try (rw [h2]; walk_at "w")
    rw [encSs_length]
    refine ifD (fun e => ?_) (fun e => ?_)
    · have e' : overS st ss < ss.length := by omega
      have g := List.findIdx_getElem (xs := ss) (p := fun s => decide (0 < leastS s st)) (w := e')
      refine (ht (.sum (overS st ss : Nat)) ?_ (by show 1 ≤ n + 1; omega))
      unfold isT
      rw [if_pos ⟨by omega, by omega⟩, Int.toNat_natCast, List.getD_eq_getElem?_getD, List.getElem?_eq_getElem e']
      exact g
    have hno : ∀ s ∈ ss, leastS s st ≤ 0 := fun s hs => by
      have g : overS st ss = ss.length := by
        have := List.findIdx_le_length (xs := ss) (p := fun s => decide (0 < leastS s st))
        unfold overS at e ⊢
        omega
      have := List.findIdx_eq_length.mp g s hs
      have := of_decide_eq_false this
      omega
    refine ⟨st, _, rfl, h1, ok.pos, by have := ok.few; omega, fun b p hp hm => ?_⟩
    have hb : b < st.length := (List.getElem?_eq_some_iff.mp hp).1
    have hpm : p ∈ st := List.mem_of_getElem? hp
    have ple := ok.le p hpm
    walk_at "w"
    try (rw [h1]; walk_at "w")
    rw [atD_nat (encSt_get hp)]
    walk_at "w"
    refine ifD (fun e1 => ?_) (fun e1 => ?_)
    · walk_at "w"
      try rw [h1]
      refine lc_list encP (fun p => .int p.1) h1 st [] (fun p _ Q q => q) (by have := ok.few; simp; omega) ?_
      have e2 : ([] : List D) ++ st.map (fun p => D.int p.1) = encI (st.map (·.1)) := by rw [encI, List.map_map]; rfl
      rw [e2]
      have hpt : ∀ q ∈ st, q.1 = q.2 := fun q hq => by have := hm q hq; have := ok.le q hq; omega
      refine (hf (st.map (·.1)) (inSt_point hpt) fun s hs => ?_)
      have := hno s hs
      unfold leastS at this
      rw [least_point _ _ hpt] at this
      exact this
    walk_at "w"
    refine ⟨(by decide : (0 : Int) < 2 ∧ (2 : Int) < _), ?_⟩
    let m : Int := (p.1 + p.2) / 2
    have em : (p.1 + p.2) / 2 = m := rfl
    have m1 : p.1 ≤ m := by omega
    have m2 : m < p.2 := by omega
    have pb := ok.bd p hpm
    cases n with
    | zero =>
      have w0 : (p.2 - p.1).toNat ≤ wid st := by
        have : ∀ (l : List Pr), p ∈ l → (p.2 - p.1).toNat ≤ wid l := by
          intro l
          induction l with
          | nil => intro z; cases z
          | cons r l ih =>
            intro z
            show _ ≤ (r.2 - r.1).toNat + wid l
            rcases List.mem_cons.mp z with z | z
            · rw [z]; omega
            · have := ih z; omega
        exact this st hpm
      omega
    | succ n =>
      refine ⟨st, b, (p.1, m), _, rfl, h1, hb, by have := ok.few; omega, ?_⟩
      have sl : asL O (.lst (encSt (st.set b (p.1, m)))) = some (encSt (st.set b (p.1, m))) := rfl
      have su : asL O (.lst (encSt (st.set b (m + 1, p.2)))) = some (encSt (st.set b (m + 1, p.2))) := rfl
      have wl : wid (st.set b (p.1, m)) < wid st := wid_set hp (by show (m - p.1).toNat < _; omega)
      have wu : wid (st.set b (m + 1, p.2)) < wid st := wid_set hp (by show (p.2 - (m + 1)).toNat < _; omega)
      have gb : st.getD b (0, 0) = p := by rw [List.getD_eq_getElem?_getD, hp]; rfl
      refine ⟨st.set b (p.1, m), ss, _, _, rfl, sl, h2, ok.set b m1 ⟨pb.1, (by show -100 ≤ m; omega), (by show m ≤ 100; omega)⟩, by omega, fun tl il dl => ?_, fun f hif hall => ?_⟩
      · walk_at "w"
        refine ifF (encT_non tl) ?_
        refine ⟨st, b, (m + 1, p.2), _, rfl, h1, hb, by have := ok.few; omega, ?_⟩
        refine ⟨st.set b (m + 1, p.2), ss, _, _, rfl, su, h2, ok.set b (by show m + 1 ≤ p.2; omega) ⟨⟨(by show -100 ≤ m + 1; omega), (by show m + 1 ≤ 100; omega)⟩, pb.2⟩, by omega, fun tr ir dr => ?_, fun f hif hall => ?_⟩
        · walk_at "w"
          refine ifF (encT_non tr) ?_
          refine (ht (.cut b m tl tr) ?_ (by show 1 + max tl.dep tr.dep ≤ n + 1 + 1; omega))
          unfold isT
          rw [if_pos ⟨by omega, by omega⟩, Int.toNat_natCast, gb, if_pos ⟨m1, m2⟩, il, ir]
          rfl
        · walk_at "w"
          exact (hf f (inSt_set (q := (m + 1, p.2)) hp (by show p.1 ≤ m + 1; omega) (Int.le_refl _) hif) hall)
      · walk_at "w"
        exact (hf f (inSt_set (q := (p.1, m)) hp (Int.le_refl _) (by show m ≤ p.2; omega) hif) hall)
end DL

/-! The law k02: all places with their rows. -/
namespace DL
open PySem L2
local macro_rules | `(tactic| walk_at "w") => `(tactic| conv => whnf)
mutual
def rowsR : List Nat → Row → List (List Nat × Row)
  | pl, .put b s => [(pl, .put b s)]
  | pl, .say s => [(pl, .say s)]
  | pl, .ite s a b => (pl, .ite s a b) :: (rowsRs (pl ++ [0]) 0 a ++ rowsRs (pl ++ [1]) 0 b)
  | pl, .loop s ws b => (pl, .loop s ws b) :: rowsRs (pl ++ [0]) 0 b
def rowsRs : List Nat → Nat → List Row → List (List Nat × Row)
  | _, _, [] => []
  | ahead, k, r :: rs => rowsR (ahead ++ [k]) r ++ rowsRs ahead (k + 1) rs
end
mutual
theorem rowsR_len : ∀ (r : Row) (pl : List Nat), (rowsR pl r).length = cntR r
  | .put _ _, _ => rfl
  | .say _, _ => rfl
  | .ite s a b, pl => by
    show (rowsRs (pl ++ [0]) 0 a ++ rowsRs (pl ++ [1]) 0 b).length + 1 = 1 + cnts a + cnts b
    rw [List.length_append, rowsRs_len a, rowsRs_len b]; omega
  | .loop s ws b, pl => by
    show (rowsRs (pl ++ [0]) 0 b).length + 1 = 1 + cnts b
    rw [rowsRs_len b]; omega
theorem rowsRs_len : ∀ (rs : List Row) (ahead : List Nat) (k : Nat), (rowsRs ahead k rs).length = cnts rs
  | [], _, _ => rfl
  | r :: rs, ahead, k => by
    show (rowsR (ahead ++ [k]) r ++ rowsRs ahead (k + 1) rs).length = cntR r + cnts rs
    rw [List.length_append, rowsR_len r, rowsRs_len rs]
end
theorem rowsRs_append : ∀ (a b : List Row) (ahead : List Nat) (k : Nat), rowsRs ahead k (a ++ b) = rowsRs ahead k a ++ rowsRs ahead (k + a.length) b
  | [], b, ahead, k => rfl
  | r :: a, b, ahead, k => by
    show rowsR (ahead ++ [k]) r ++ rowsRs ahead (k + 1) (a ++ b) = (rowsR (ahead ++ [k]) r ++ rowsRs ahead (k + 1) a) ++ _
    rw [rowsRs_append a b, List.append_assoc, List.length_cons, show k + 1 + a.length = k + (a.length + 1) from by omega]
def encPR (x : List Nat × Row) : D := .tup [encPc x.1, encR x.2]
theorem encPR_hd {n : Nat} (x : List Nat × Row) : Hd n (encPR x) := .tup (.cons (encPc_hd _) (.cons (encR_hd _) .nil))
def encPRs (l : List (List Nat × Row)) : List D := l.map encPR
theorem encPRs_hd {n : Nat} (l : List (List Nat × Row)) : HdL n (encPRs l) := HdL.of fun d hd => by
  obtain ⟨x, _, rfl⟩ := List.mem_map.mp hd
  exact encPR_hd x
theorem encPRs_length (l : List (List Nat × Row)) : (encPRs l).length = l.length := List.length_map ..
theorem encPRs_append (a b : List (List Nat × Row)) : encPRs (a ++ b) = encPRs a ++ encPRs b := by unfold encPRs; rw [List.map_append]
def S_l_places : Nat → DSp
  | 0 => fun _ _ _ => False
  | d + 1 => fun ds O R => ∃ (rs : List Row) (n : Nat) (ahead : List Nat), ds = [.tup (encRs rs), encPc ahead] ∧ okRs n rs d ∧ cnts rs ≤ 500 ∧ ahead.length + 2 * d ≤ 500 ∧ R (.lst (encPRs (rowsRs ahead 0 rs))) O
def N_l_places : List Str := ["_law_rows_here", "_law_ahead", "_law_found", "_law_k", "_law_place"]
def R_l_places (n : Nat) : DS :=
  (dSeq (dAsg (dNew (dLst dNil)) (dgName 2))
  (dSeq (dFor (diR1 (dCall1 lenD (dCons (dVar 0) dNil))) (dgName 3) (dSeq (dAsg (dOp addD (dVar 1) (dTup (dCons (dVar 3) dNil))) (dgName 4))
  (dSeq (dDrop (dApp (dVar 2) (dTup (dCons (dVar 4) (dCons (dOp ixD (dVar 0) (dVar 3)) dNil)))))
  (dSeq (dIfS (dTest (dOp eqD (dOp ixD (dOp ixD (dVar 0) (dVar 3)) (dC (.int 0))) (dC (.str "if")))) (dAsg (dNew (dCat (dOp addD (dVar 2) (dCall (S_l_places n) (dCons (dOp ixD (dOp ixD (dVar 0) (dVar 3)) (dC (.int 2))) (dCons (dOp addD (dVar 4) (dTup (dCons (dC (.int 0)) dNil))) dNil)))) (dCall (S_l_places n) (dCons (dOp ixD (dOp ixD (dVar 0) (dVar 3)) (dC (.int 3))) (dCons (dOp addD (dVar 4) (dTup (dCons (dC (.int 1)) dNil))) dNil))))) (dgName 2)) dNext)
  (dIfS (dTest (dOp eqD (dOp ixD (dOp ixD (dVar 0) (dVar 3)) (dC (.int 0))) (dC (.str "loop")))) (dAsg (dNew (dCat (dVar 2) (dCall (S_l_places n) (dCons (dOp ixD (dOp ixD (dVar 0) (dVar 3)) (dC (.int 3))) (dCons (dOp addD (dVar 4) (dTup (dCons (dC (.int 0)) dNil))) dNil))))) (dgName 2)) dNext)))))
  (dRet (dVar 2))))
def R_l_places_b1 (n : Nat) : DS :=
  (dSeq (dAsg (dOp addD (dVar 1) (dTup (dCons (dVar 3) dNil))) (dgName 4))
  (dSeq (dDrop (dApp (dVar 2) (dTup (dCons (dVar 4) (dCons (dOp ixD (dVar 0) (dVar 3)) dNil)))))
  (dSeq (dIfS (dTest (dOp eqD (dOp ixD (dOp ixD (dVar 0) (dVar 3)) (dC (.int 0))) (dC (.str "if")))) (dAsg (dNew (dCat (dOp addD (dVar 2) (dCall (S_l_places n) (dCons (dOp ixD (dOp ixD (dVar 0) (dVar 3)) (dC (.int 2))) (dCons (dOp addD (dVar 4) (dTup (dCons (dC (.int 0)) dNil))) dNil)))) (dCall (S_l_places n) (dCons (dOp ixD (dOp ixD (dVar 0) (dVar 3)) (dC (.int 3))) (dCons (dOp addD (dVar 4) (dTup (dCons (dC (.int 1)) dNil))) dNil))))) (dgName 2)) dNext)
  (dIfS (dTest (dOp eqD (dOp ixD (dOp ixD (dVar 0) (dVar 3)) (dC (.int 0))) (dC (.str "loop")))) (dAsg (dNew (dCat (dVar 2) (dCall (S_l_places n) (dCons (dOp ixD (dOp ixD (dVar 0) (dVar 3)) (dC (.int 3))) (dCons (dOp addD (dVar 4) (dTup (dCons (dC (.int 0)) dNil))) dNil))))) (dgName 2)) dNext))))
def R_l_places_b1_s2 (n : Nat) : DS :=
  (dSeq (dIfS (dTest (dOp eqD (dOp ixD (dOp ixD (dVar 0) (dVar 3)) (dC (.int 0))) (dC (.str "if")))) (dAsg (dNew (dCat (dOp addD (dVar 2) (dCall (S_l_places n) (dCons (dOp ixD (dOp ixD (dVar 0) (dVar 3)) (dC (.int 2))) (dCons (dOp addD (dVar 4) (dTup (dCons (dC (.int 0)) dNil))) dNil)))) (dCall (S_l_places n) (dCons (dOp ixD (dOp ixD (dVar 0) (dVar 3)) (dC (.int 3))) (dCons (dOp addD (dVar 4) (dTup (dCons (dC (.int 1)) dNil))) dNil))))) (dgName 2)) dNext)
  (dIfS (dTest (dOp eqD (dOp ixD (dOp ixD (dVar 0) (dVar 3)) (dC (.int 0))) (dC (.str "loop")))) (dAsg (dNew (dCat (dVar 2) (dCall (S_l_places n) (dCons (dOp ixD (dOp ixD (dVar 0) (dVar 3)) (dC (.int 3))) (dCons (dOp addD (dVar 4) (dTup (dCons (dC (.int 0)) dNil))) dNil))))) (dgName 2)) dNext))
theorem len_l_places (n : Nat) (ds : List D) (O : Own) (R : D → Own → Prop) (h : S_l_places (n + 1) ds O R) : ds.length = 2 := by obtain ⟨_, _, _, rfl, _⟩ := h; rfl
theorem snoc_pc (ahead : List Nat) (j : Nat) : ahead.map (fun i : Nat => D.int (i : Int)) ++ [.int (j : Nat)] = (ahead ++ [j]).map (fun i : Nat => D.int (i : Int)) := by rw [List.map_append]; rfl
theorem snoc0 (l : List Nat) : D.tup (l.map (fun i : Nat => D.int (i : Int)) ++ [.int 0]) = encPc (l ++ [0]) := by unfold encPc; rw [List.map_append]; rfl
theorem snoc1 (l : List Nat) : D.tup (l.map (fun i : Nat => D.int (i : Int)) ++ [.int 1]) = encPc (l ++ [1]) := by unfold encPc; rw [List.map_append]; rfl
theorem places_two {n nn j h : Nat} {rs : List Row} {ahead : List Nat} {O : Own} {r : Row} {L : List (List Nat × Row)} {nx bk ct : DSt → Own → Prop} {R : D → Own → Prop} (hr : rs[j]? = some r) (ok : okR nn r n) (hL : L.length + cntR r ≤ 1000) (hcR : cntR r ≤ 500) (hah : ahead.length + 2 * n ≤ 500)
    (e : O[h]? = some (some (.lst (encPRs (L ++ [(ahead ++ [j], r)])))))
    (hx : ∀ (O' : Own) (h' : Nat), O'.take O.length = O → (h' = h ∨ O.length ≤ h') → O'[h']? = some (some (.lst (encPRs (L ++ rowsR (ahead ++ [j]) r)))) → nx [some (.tup (encRs rs)), some (encPc ahead), some (.own h'), some (.int (j : Nat)), some (encPc (ahead ++ [j]))] O') :
    R_l_places_b1_s2 n { nx := nx, rt := R, bk := bk, ct := ct } [some (.tup (encRs rs)), some (encPc ahead), some (.own h), some (.int (j : Nat)), some (encPc (ahead ++ [j]))] O := by
  cases r with
  | put b s =>
    walk_at "w"
    rw [atD_nat (encRs_get hr)]
    walk_at "w"
    refine strF (s := "put") ok_put ok_if (by decide +kernel) ?_
    walk_at "w"
    rw [atD_nat (encRs_get hr)]
    walk_at "w"
    refine strF (s := "put") ok_put ok_loop (by decide +kernel) ?_
    exact hx O h List.take_length (.inl rfl) e
  | say s =>
    walk_at "w"
    rw [atD_nat (encRs_get hr)]
    walk_at "w"
    refine strF (s := "say") ok_say ok_if (by decide +kernel) ?_
    walk_at "w"
    rw [atD_nat (encRs_get hr)]
    walk_at "w"
    refine strF (s := "say") ok_say ok_loop (by decide +kernel) ?_
    exact hx O h List.take_length (.inl rfl) e
  | ite s a b =>
    obtain ⟨hd, hs, ha, hb⟩ := ok
    obtain ⟨m, rfl⟩ : ∃ m, n = m + 1 := ⟨n - 1, by omega⟩
    have ca : cntR (.ite s a b) = 1 + cnts a + cnts b := rfl
    have la := rowsRs_len a (ahead ++ [j] ++ [0]) 0
    have lb := rowsRs_len b (ahead ++ [j] ++ [1]) 0
    walk_at "w"
    rw [atD_nat (encRs_get hr)]
    walk_at "w"
    refine strT ok_if ?_
    walk_at "w"
    rw [atD_nat (encRs_get hr)]
    walk_at "w"
    refine ⟨by simp; omega, ?_⟩
    refine ⟨a, nn, ahead ++ [j] ++ [0], by rw [snoc0], ha, by omega, by simp; omega, ?_⟩
    walk_at "w"
    rw [asL_own e]
    walk_at "w"
    refine ⟨by rw [encPRs_length, encPRs_length, List.length_append]; show _ + 1 + _ ≤ _; omega, ?_⟩
    walk_at "w"
    rw [atD_nat (encRs_get hr)]
    walk_at "w"
    refine ⟨by simp; omega, ?_⟩
    refine ⟨b, nn, ahead ++ [j] ++ [1], by rw [snoc1], hb, by omega, by simp; omega, ?_⟩
    walk_at "w"
    refine ⟨by rw [List.length_append, encPRs_length, encPRs_length, encPRs_length, List.length_append]; show _ + 1 + _ + _ ≤ _; omega, ?_⟩
    have e2 : encPRs (L ++ [(ahead ++ [j], .ite s a b)]) ++ encPRs (rowsRs (ahead ++ [j] ++ [0]) 0 a) ++ encPRs (rowsRs (ahead ++ [j] ++ [1]) 0 b) = encPRs (L ++ rowsR (ahead ++ [j]) (.ite s a b)) := by
      rw [← encPRs_append, ← encPRs_append, List.append_assoc, List.append_assoc]; rfl
    rw [e2]
    walk_at "w"
    rw [atD_nat (encRs_get hr)]
    walk_at "w"
    refine strF (s := "if") ok_if ok_loop (by decide +kernel) ?_
    exact hx _ O.length top_take (.inr (Nat.le_refl _)) top_get
  | loop s ws b =>
    obtain ⟨hd, hs, hw, hws, hb⟩ := ok
    obtain ⟨m, rfl⟩ : ∃ m, n = m + 1 := ⟨n - 1, by omega⟩
    have ca : cntR (.loop s ws b) = 1 + cnts b := rfl
    have lb := rowsRs_len b (ahead ++ [j] ++ [0]) 0
    walk_at "w"
    rw [atD_nat (encRs_get hr)]
    walk_at "w"
    refine strF (s := "loop") ok_loop ok_if (by decide +kernel) ?_
    walk_at "w"
    rw [atD_nat (encRs_get hr)]
    walk_at "w"
    refine strT ok_loop ?_
    walk_at "w"
    rw [atD_nat (encRs_get hr)]
    walk_at "w"
    refine ⟨by simp; omega, ?_⟩
    refine ⟨b, nn, ahead ++ [j] ++ [0], by rw [snoc0], hb, by omega, by simp; omega, ?_⟩
    walk_at "w"
    rw [asL_own e]
    walk_at "w"
    refine ⟨by rw [encPRs_length, encPRs_length, List.length_append]; show _ + 1 + _ ≤ _; omega, ?_⟩
    have e2 : encPRs (L ++ [(ahead ++ [j], .loop s ws b)]) ++ encPRs (rowsRs (ahead ++ [j] ++ [0]) 0 b) = encPRs (L ++ rowsR (ahead ++ [j]) (.loop s ws b)) := by
      rw [← encPRs_append, List.append_assoc]; rfl
    rw [e2]
    exact hx _ O.length top_take (.inr (Nat.le_refl _)) top_get
theorem sem_l_places (n : Nat) (ds : List D) (O : Own) (R : D → Own → Prop) (h : S_l_places (n + 1) ds O R) : R_l_places n { nx := fun _ O' => Pure O R .non O', rt := Pure O R } (startD N_l_places ds) O := by
  obtain ⟨rs, nn, ahead, rfl, ok, hc, hah, h⟩ := h
  walk_at "w"
  rw [encRs_length]
  have hl := len_le_cnts rs
  refine ⟨by omega, ?_⟩
  rw [Int.toNat_natCast]
  refine forL_rng rs.length (fun j δ O' => ∃ (h : Nat) (c3 c4 : Option D), O'.take O.length = O ∧ O.length ≤ h ∧ O'[h]? = some (some (.lst (encPRs (rowsRs ahead 0 (rs.take j))))) ∧ δ = [some (.tup (encRs rs)), some (encPc ahead), some (.own h), c3, c4]) ⟨O.length, none, none, top_take, Nat.le_refl _, top_get, rfl⟩ (fun _ _ _ _ => trivial) ?_ ?_
  · rintro j δ O' nx hj ⟨hh, c3, c4, t1, t2, t3, rfl⟩ hx
    have gj : rs[j]? = some rs[j] := List.getElem?_eq_getElem hj
    generalize er : rs[j] = r at gj
    have okr := okR_le gj ok
    have cg := cnts_get gj
    have lt := rowsRs_len (rs.take j) ahead 0
    have hlt : hh < O'.length := (List.getElem?_eq_some_iff.mp t3).1
    have tk : rs.take (j + 1) = rs.take j ++ [r] := by rw [List.take_succ_eq_append_getElem hj, er]
    have fin : rowsRs ahead 0 (rs.take (j + 1)) = rowsRs ahead 0 (rs.take j) ++ rowsR (ahead ++ [j]) r := by
      rw [tk, rowsRs_append]
      show _ ++ (rowsR (ahead ++ [0 + (rs.take j).length]) r ++ []) = _
      rw [List.append_nil, List.length_take, Nat.min_eq_left (by omega), Nat.zero_add]
    have e2 : encPRs (rowsRs ahead 0 (rs.take j)) ++ [D.tup [D.tup ((ahead ++ [j]).map fun i : Nat => D.int (i : Int)), encR r]] = encPRs (rowsRs ahead 0 (rs.take j) ++ [(ahead ++ [j], r)]) := by rw [encPRs_append]; rfl
    walk_at "w"
    refine ⟨by simp; omega, ?_⟩
    rw [snoc_pc]
    walk_at "w"
    rw [asL_own t3]
    walk_at "w"
    rw [atD_nat (encRs_get gj)]
    walk_at "w"
    rw [t3]
    walk_at "w"
    refine ⟨by rw [encPRs_length]; omega, ?_⟩
    rw [e2]
    refine places_two gj okr (by omega) (by omega) hah (setget hlt) fun O2 h2 u1 u2 u3 => ?_
    have lle : O.length ≤ O'.length := by have := congrArg List.length t1; rw [List.length_take] at this; omega
    have t4 : (O'.set hh (some (.lst (encPRs (rowsRs ahead 0 (rs.take j) ++ [(ahead ++ [j], r)]))))).take O.length = O := by rw [List.take_set_of_le t2]; exact t1
    refine hx _ _ ⟨h2, _, _, ?_, ?_, by rw [fin]; exact u3, rfl⟩
    · rw [List.length_set] at u1
      have e : O2.take O.length = (O2.take O'.length).take O.length := by rw [List.take_take, Nat.min_eq_left lle]
      rw [e, u1]
      exact t4
    · rcases u2 with z | z
      · rw [z]; exact t2
      · rw [List.length_set] at z; omega
  · rintro δ O' ⟨hh, c3, c4, t1, t2, t3, rfl⟩
    rw [List.take_of_length_le (Nat.le_refl _)] at t3
    exact ⟨.lst (encPRs (rowsRs ahead 0 rs)), t1, .own t2 t3 (ResL.same (encPRs_hd _)), h⟩
end DL

/-! The law k02: rows with another row at a place. -/
namespace DL
open PySem L2
local macro_rules | `(tactic| walk_at "w") => `(tactic| conv => whnf)
theorem cut_to {ds : List D} {k : Nat} (h : k ≤ ds.length) : cutD ds none (some (k : Int)) = ds.take k := by
  unfold cutD
  rw [HT.sIx_none, HT.sIx_nat, List.drop_zero, Nat.sub_zero, Nat.min_eq_left h]
theorem cut_from {ds : List D} {k : Nat} (h : k ≤ ds.length) : cutD ds (some (k : Int)) none = ds.drop k := by
  unfold cutD
  rw [HT.sIx_none, HT.sIx_nat, Nat.min_eq_left h]
  refine List.take_of_length_le ?_
  rw [List.length_drop]
  exact Nat.le_refl _
theorem okRs_take {n d : Nat} : ∀ {rs : List Row} (i : Nat), okRs n rs d → okRs n (rs.take i) d
  | [], i, _ => by rw [List.take_nil]; trivial
  | r :: rs, 0, _ => trivial
  | r :: rs, i + 1, h => ⟨h.1, okRs_take i h.2⟩
def S_l_changed : Nat → DSp
  | 0 => fun _ _ _ => False
  | n + 1 => fun ds O R => ∃ (rs : List Row) (i : Nat) (more : List (Nat × Nat)) (d : D) (nn deep : Nat) (r : Row) (q : Option Nat), ds = [.tup (encRs rs), .tup (encPl i more), d] ∧ okRs nn rs deep ∧ cnts rs ≤ 500 ∧ more.length ≤ n ∧ n ≤ 100 ∧ rowAt rs i more = some r ∧ BadRow q nn (deep - more.length) d ∧ ∀ d' O', O'.take O.length = O → BadRows q nn deep d' → R d' O'
def N_l_changed : List Str := ["_law_rows_here", "_law_place", "_law_row_here", "_law_at_here", "_law_parts", "_law_inner"]
def R_l_changed (n : Nat) : DS :=
  (dSeq (dAsg (dOp ixD (dVar 1) (dC (.int 0))) (dgName 3))
  (dSeq (dIfS (dTest (dOp gtD (dCall1 lenD (dCons (dVar 1) dNil)) (dC (.int 1)))) (dSeq (dAsg (dNew (dList (dOp ixD (dVar 0) (dVar 3)))) (dgName 4))
  (dSeq (dAsg (dOp ixD (dFrz (dLst (dCons (dOp addD (dC (.int 2)) (dOp ixD (dVar 1) (dC (.int 1)))) (dCons (dC (.int 3)) dNil)))) (dCall1 intD (dCons (dOp eqD (dOp ixD (dVar 4) (dC (.int 0))) (dC (.str "loop"))) dNil))) (dgName 5))
  (dSeq (dAsg (dCall (S_l_changed n) (dCons (dOp ixD (dVar 4) (dVar 5)) (dCons (dSl (dVar 1) (dPart (dC (.int 2))) dNoPart) (dCons (dVar 2) dNil)))) (dgSub (dVar 4) (dVar 5)))
  (dAsg (dCall1 tupleD (dCons (dVar 4) dNil)) (dgName 2))))) dNext)
  (dRet (dOp addD (dOp addD (dSl (dVar 0) dNoPart (dPart (dVar 3))) (dTup (dCons (dVar 2) dNil))) (dSl (dVar 0) (dPart (dOp addD (dVar 3) (dC (.int 1)))) dNoPart)))))
def R_l_changed_2 (n : Nat) : DS :=
  (dRet (dOp addD (dOp addD (dSl (dVar 0) dNoPart (dPart (dVar 3))) (dTup (dCons (dVar 2) dNil))) (dSl (dVar 0) (dPart (dOp addD (dVar 3) (dC (.int 1)))) dNoPart)))
theorem len_l_changed (n : Nat) (ds : List D) (O : Own) (R : D → Own → Prop) (h : S_l_changed (n + 1) ds O R) : ds.length = 3 := by obtain ⟨_, _, _, _, _, _, _, _, rfl, _⟩ := h; rfl
theorem changed_end {n nn deep i : Nat} {rs : List Row} {q : Option Nat} {d : D} {r : Row} {O O0 : Own} {R : D → Own → Prop} {c1 c4 c5 : Option D} (ok : okRs nn rs deep) (hc : cnts rs ≤ 500) (hr : rs[i]? = some r) (bad : BadRow q nn deep d) (t : O.take O0.length = O0) (h : ∀ d' O', O'.take O0.length = O0 → BadRows q nn deep d' → R d' O') :
    R_l_changed_2 n { nx := fun _ O' => R .non O', rt := R } [some (.tup (encRs rs)), c1, some d, some (.int (i : Nat)), c4, c5] O := by
  have hi : i < rs.length := (List.getElem?_eq_some_iff.mp hr).1
  have hl := len_le_cnts rs
  have l1 : (encRs rs).length = rs.length := encRs_length rs
  have e1 : cutD (encRs rs) none (some ((i : Nat) : Int)) = encRs (rs.take i) := by rw [cut_to (by omega), encRs_map, encRs_map, List.map_take]
  have e2 : cutD (encRs rs) (some (((i : Nat) : Int) + 1)) none = (encRs rs).drop (i + 1) := cut_from (k := i + 1) (by omega)
  have l2 : (encRs (rs.take i)).length ≤ rs.length := by rw [encRs_length, List.length_take]; omega
  have l3 : ((encRs rs).drop (i + 1)).length ≤ rs.length := by rw [List.length_drop, l1]; omega
  walk_at "w"
  rw [e1]
  refine ⟨by show _ + 1 ≤ _; omega, ?_⟩
  walk_at "w"
  rw [e2]
  refine ⟨by rw [List.length_append]; show _ + 1 + _ ≤ _; omega, ?_⟩
  have e3 : encRs (rs.take i) ++ [d] ++ (encRs rs).drop (i + 1) = encRs (rs.take i) ++ d :: (encRs rs).drop (i + 1) := by rw [List.append_assoc]; rfl
  rw [e3]
  exact h _ O t (.mid (rs.take i) d _ (okRs_take i ok) bad)
theorem top_of_take {O O' : Own} {v : Option DO} (t : O'.take (O ++ [v]).length = O ++ [v]) : O'[O.length]? = some v ∧ O.length < O'.length ∧ ∀ w, (O'.set O.length w).take O.length = O := by
  have l : (O ++ [v]).length = O.length + 1 := by simp
  have g : O'[O.length]? = some v := by
    have : (O'.take (O ++ [v]).length)[O.length]? = some v := by rw [t]; exact top_get
    rw [List.getElem?_take_of_lt (by omega)] at this
    exact this
  refine ⟨g, (List.getElem?_eq_some_iff.mp g).1, fun w => ?_⟩
  rw [List.take_set_of_le (Nat.le_refl _)]
  have e : O'.take O.length = (O'.take (O ++ [v]).length).take O.length := by rw [List.take_take, Nat.min_eq_left (by omega)]
  rw [e, t]
  exact top_take
theorem sem_l_changed (n : Nat) (ds : List D) (O : Own) (R : D → Own → Prop) (h : S_l_changed (n + 1) ds O R) : R_l_changed n { nx := fun _ O' => R .non O', rt := R } (startD N_l_changed ds) O := by
  obtain ⟨rs, i, more, d, nn, deep, r, q, rfl, ok, hc, hm, hn, hr, bad, h⟩ := h
  have l0 := encPl_length i more
  cases more with
  | nil =>
    exact changed_end (n := n) ok hc hr bad List.take_length h
  | cons bj more =>
    obtain ⟨b, j⟩ := bj
    have e0 : encPl i ((b, j) :: more) = .int (i : Nat) :: .int (b : Nat) :: encPl j more := rfl
    have lm : (encPl j more).length = 1 + 2 * more.length := encPl_length j more
    have ec : cutD (encPl i ((b, j) :: more)) (some 2) none = encPl j more := cut_from (k := 2) (by rw [l0, List.length_cons]; omega)
    rw [e0] at ec
    cases n with
    | zero => rw [List.length_cons] at hm; omega
    | succ n =>
      have hr' : ((rs[i]?).bind fun r => ((innerR r)[b]?).bind fun x => rowAt x j more) = some r := hr
      obtain ⟨r0, g0, hr'⟩ := Option.bind_eq_some_iff.mp hr'
      obtain ⟨x, gx, hr'⟩ := Option.bind_eq_some_iff.mp hr'
      have okr := okR_le g0 ok
      have cr := cnts_get g0
      have lc : (more.length + 1 ≤ n + 1) := by rw [List.length_cons] at hm; exact hm
      have bad' : BadRow q nn (deep - 1 - more.length) d := by rw [List.length_cons] at bad; rw [show deep - 1 - more.length = deep - (more.length + 1) from by omega]; exact bad
      rw [e0]
      cases r0 with
      | put b' s => cases gx
      | say s => cases gx
      | ite s a c =>
        obtain ⟨hd, hs, ha, hb⟩ := okr
        obtain ⟨e, rfl⟩ : ∃ e, deep = e + 1 := ⟨deep - 1, by omega⟩
        have cc : cntR (.ite s a c) = 1 + cnts a + cnts c := rfl
        obtain ⟨rfl, rfl⟩ | ⟨rfl, rfl⟩ : (b = 0 ∧ a = x) ∨ (b = 1 ∧ c = x) := by
          match b, gx with
          | 0, gx => exact .inl ⟨rfl, Option.some.inj gx⟩
          | 1, gx => exact .inr ⟨rfl, Option.some.inj gx⟩
        · walk_at "w"
          rw [List.length_cons, List.length_cons, lm]
          refine ifD (fun _ => ?_) (fun z => (z (by omega)).elim)
          walk_at "w"
          rw [atD_nat (encRs_get g0)]
          walk_at "w"
          rw [asL_top]
          refine strF (s := "if") ok_if ok_loop (by decide +kernel) ?_
          walk_at "w"
          rw [asL_top]
          walk_at "w"
          refine ⟨a, j, more, d, nn, e, r, q, by rw [ec], ha, by omega, by omega, by omega, hr', bad', fun d' O' t1 bd => ?_⟩
          obtain ⟨g1, l1, t2⟩ := top_of_take t1
          walk_at "w"
          rw [g1]
          walk_at "w"
          rw [asL_own (setget l1)]
          walk_at "w"
          exact changed_end (n := n + 1) ok hc g0 (.if1 s d' _ hs bd) (t2 _) h
        · walk_at "w"
          rw [List.length_cons, List.length_cons, lm]
          refine ifD (fun _ => ?_) (fun z => (z (by omega)).elim)
          walk_at "w"
          rw [atD_nat (encRs_get g0)]
          walk_at "w"
          rw [asL_top]
          refine strF (s := "if") ok_if ok_loop (by decide +kernel) ?_
          walk_at "w"
          rw [asL_top]
          walk_at "w"
          refine ⟨c, j, more, d, nn, e, r, q, by rw [ec], hb, by omega, by omega, by omega, hr', bad', fun d' O' t1 bd => ?_⟩
          obtain ⟨g1, l1, t2⟩ := top_of_take t1
          walk_at "w"
          rw [g1]
          walk_at "w"
          rw [asL_own (setget l1)]
          walk_at "w"
          exact changed_end (n := n + 1) ok hc g0 (.if2 s a d' hs ha bd) (t2 _) h
      | loop s ws c =>
        obtain ⟨hd, hs, hw, hws, hb⟩ := okr
        obtain ⟨e, rfl⟩ : ∃ e, deep = e + 1 := ⟨deep - 1, by omega⟩
        have cc : cntR (.loop s ws c) = 1 + cnts c := rfl
        obtain ⟨rfl, rfl⟩ : b = 0 ∧ c = x := by
          match b, gx with
          | 0, gx => exact ⟨rfl, Option.some.inj gx⟩
        walk_at "w"
        rw [List.length_cons, List.length_cons, lm]
        refine ifD (fun _ => ?_) (fun z => (z (by omega)).elim)
        walk_at "w"
        rw [atD_nat (encRs_get g0)]
        walk_at "w"
        rw [asL_top]
        refine strT ok_loop ?_
        walk_at "w"
        rw [asL_top]
        walk_at "w"
        refine ⟨c, j, more, d, nn, e, r, q, by rw [ec], hb, by omega, by omega, by omega, hr', bad', fun d' O' t1 bd => ?_⟩
        obtain ⟨g1, l1, t2⟩ := top_of_take t1
        walk_at "w"
        rw [g1]
        walk_at "w"
        rw [asL_own (setget l1)]
        walk_at "w"
        exact changed_end (n := n + 1) ok hc g0 (.loopb s ws d' hs hw hws bd) (t2 _) h
end DL

/-! The law k02: sums and rows that are none. -/
namespace DL
open PySem L2
local macro_rules | `(tactic| walk_at "w") => `(tactic| conv => whnf)
theorem pickL (l : List D) (k : Nat) (hl : l.length = k) (h0 : 0 < k) (c : Int) : ∃ y ∈ l, atD l (c % (k : Int)) = some y := by
  have h1 := Int.emod_nonneg c (show (k : Int) ≠ 0 by omega)
  have h2 := Int.emod_lt_of_pos c (show (0 : Int) < k by omega)
  obtain ⟨i, hi, ei⟩ : ∃ i : Nat, i < k ∧ c % (k : Int) = (i : Int) := ⟨(c % (k : Int)).toNat, by omega, by omega⟩
  have hk : i < l.length := by omega
  exact ⟨l[i], List.getElem_mem hk, by rw [ei]; exact atD_nat (List.getElem?_eq_getElem hk)⟩
theorem more_bad {y : D} (h : y ∈ [D.int 100, .int (-100), .bl true, .non, .str "0", .int (10 ^ Int.toNat 20)]) : Among (-99) 99 y false := by
  simp only [List.mem_cons, List.not_mem_nil, or_false] at h
  rcases h with rfl | rfl | rfl | rfl | rfl | rfl
  · exact among_f (by decide)
  · exact among_f (by decide)
  · exact .no (.bl _)
  · exact .no .non
  · exact .no (.str _)
  · exact among_f (by decide +kernel)
theorem num_bad {y : D} (h : y ∈ [D.int 10, .int (-10), .bl true, .non, .str "1", .int (10 ^ Int.toNat 20)]) : Among (-9) 9 y false := by
  simp only [List.mem_cons, List.not_mem_nil, or_false] at h
  rcases h with rfl | rfl | rfl | rfl | rfl | rfl
  · exact among_f (by decide)
  · exact among_f (by decide)
  · exact .no (.bl _)
  · exact .no .non
  · exact .no (.str _)
  · exact among_f (by decide +kernel)
theorem hd_more {n : Nat} {y : D} (h : y ∈ [D.int 100, .int (-100), .bl true, .non, .str "0", .int (10 ^ Int.toNat 20)]) : Hd n y := by
  simp only [List.mem_cons, List.not_mem_nil, or_false] at h
  rcases h with rfl | rfl | rfl | rfl | rfl | rfl
  · exact .int _
  · exact .int _
  · exact .bl _
  · exact .non
  · exact .str _
  · exact .int _
theorem hd_num {n : Nat} {y : D} (h : y ∈ [D.int 10, .int (-10), .bl true, .non, .str "1", .int (10 ^ Int.toNat 20)]) : Hd n y := by
  simp only [List.mem_cons, List.not_mem_nil, or_false] at h
  rcases h with rfl | rfl | rfl | rfl | rfl | rfl
  · exact .int _
  · exact .int _
  · exact .bl _
  · exact .non
  · exact .str _
  · exact .int _
def N_l_bad_sum : List Str := ["_law_cell", "_law_one", "_law_numbers", "_law_at_here", "_law_way"]
def R_l_bad_sum : DS :=
  (dSeq (dAsg (dNew (dList (dOp ixD (dVar 1) (dC (.int 0))))) (dgName 2))
  (dSeq (dAsg (dOp modD (dOp divD (dVar 0) (dC (.int 8))) (dCall1 lenD (dCons (dVar 2) dNil))) (dgName 3))
  (dSeq (dAsg (dOp modD (dVar 0) (dC (.int 8))) (dgName 4))
  (dSeq (dIfS (dTest (dOp eqD (dVar 4) (dC (.int 0)))) (dRet (dTup (dCons (dVar 2) (dCons (dOp ixD (dVar 1) (dC (.int 1))) dNil)))) dNext)
  (dSeq (dIfS (dTest (dOp eqD (dVar 4) (dC (.int 1)))) (dRet (dTup (dCons (dOp addD (dOp ixD (dVar 1) (dC (.int 0))) (dTup (dCons (dC (.int 0)) dNil))) (dCons (dOp ixD (dVar 1) (dC (.int 1))) dNil)))) dNext)
  (dSeq (dIfS (dTest (dOp eqD (dVar 4) (dC (.int 2)))) (dRet (dTup (dCons (dSl (dOp ixD (dVar 1) (dC (.int 0))) (dPart (dC (.int 1))) dNoPart) (dCons (dOp ixD (dVar 1) (dC (.int 1))) dNil)))) dNext)
  (dSeq (dIfS (dTest (dOp eqD (dVar 4) (dC (.int 3)))) (dRet (dTup (dCons (dOp ixD (dVar 1) (dC (.int 0))) (dCons (dOp ixD (dFrz (dLst (dCons (dC (.int 100)) (dCons (negD (dC (.int 100))) (dCons (dC (.bl true)) (dCons (dC .non) (dCons (dC (.str "0")) (dCons (dOp powD (dC (.int 10)) (dC (.int 20))) dNil)))))))) (dOp modD (dOp divD (dVar 0) (dC (.int 24))) (dC (.int 6)))) dNil)))) dNext)
  (dSeq (dIfS (dTest (dOp eqD (dVar 4) (dC (.int 4)))) (dRet (dSl (dVar 1) dNoPart (dPart (dC (.int 1))))) dNext)
  (dSeq (dIfS (dTest (dOp eqD (dVar 4) (dC (.int 5)))) (dRet (dFrz (dList (dVar 1)))) dNext)
  (dSeq (dAsg (dOp ixD (dFrz (dLst (dCons (dC (.int 10)) (dCons (negD (dC (.int 10))) (dCons (dC (.bl true)) (dCons (dC .non) (dCons (dC (.str "1")) (dCons (dOp powD (dC (.int 10)) (dC (.int 20))) dNil)))))))) (dOp modD (dOp divD (dVar 0) (dC (.int 24))) (dC (.int 6)))) (dgSub (dVar 2) (dVar 3)))
  (dRet (dTup (dCons (dCall1 tupleD (dCons (dVar 2) dNil)) (dCons (dOp ixD (dVar 1) (dC (.int 1))) dNil))))))))))))))
def R_l_bad_sum_3 : DS :=
  (dSeq (dIfS (dTest (dOp eqD (dVar 4) (dC (.int 0)))) (dRet (dTup (dCons (dVar 2) (dCons (dOp ixD (dVar 1) (dC (.int 1))) dNil)))) dNext)
  (dSeq (dIfS (dTest (dOp eqD (dVar 4) (dC (.int 1)))) (dRet (dTup (dCons (dOp addD (dOp ixD (dVar 1) (dC (.int 0))) (dTup (dCons (dC (.int 0)) dNil))) (dCons (dOp ixD (dVar 1) (dC (.int 1))) dNil)))) dNext)
  (dSeq (dIfS (dTest (dOp eqD (dVar 4) (dC (.int 2)))) (dRet (dTup (dCons (dSl (dOp ixD (dVar 1) (dC (.int 0))) (dPart (dC (.int 1))) dNoPart) (dCons (dOp ixD (dVar 1) (dC (.int 1))) dNil)))) dNext)
  (dSeq (dIfS (dTest (dOp eqD (dVar 4) (dC (.int 3)))) (dRet (dTup (dCons (dOp ixD (dVar 1) (dC (.int 0))) (dCons (dOp ixD (dFrz (dLst (dCons (dC (.int 100)) (dCons (negD (dC (.int 100))) (dCons (dC (.bl true)) (dCons (dC .non) (dCons (dC (.str "0")) (dCons (dOp powD (dC (.int 10)) (dC (.int 20))) dNil)))))))) (dOp modD (dOp divD (dVar 0) (dC (.int 24))) (dC (.int 6)))) dNil)))) dNext)
  (dSeq (dIfS (dTest (dOp eqD (dVar 4) (dC (.int 4)))) (dRet (dSl (dVar 1) dNoPart (dPart (dC (.int 1))))) dNext)
  (dSeq (dIfS (dTest (dOp eqD (dVar 4) (dC (.int 5)))) (dRet (dFrz (dList (dVar 1)))) dNext)
  (dSeq (dAsg (dOp ixD (dFrz (dLst (dCons (dC (.int 10)) (dCons (negD (dC (.int 10))) (dCons (dC (.bl true)) (dCons (dC .non) (dCons (dC (.str "1")) (dCons (dOp powD (dC (.int 10)) (dC (.int 20))) dNil)))))))) (dOp modD (dOp divD (dVar 0) (dC (.int 24))) (dC (.int 6)))) (dgSub (dVar 2) (dVar 3)))
  (dRet (dTup (dCons (dCall1 tupleD (dCons (dVar 2) dNil)) (dCons (dOp ixD (dVar 1) (dC (.int 1))) dNil)))))))))))
def R_l_bad_sum_4 : DS :=
  (dSeq (dIfS (dTest (dOp eqD (dVar 4) (dC (.int 1)))) (dRet (dTup (dCons (dOp addD (dOp ixD (dVar 1) (dC (.int 0))) (dTup (dCons (dC (.int 0)) dNil))) (dCons (dOp ixD (dVar 1) (dC (.int 1))) dNil)))) dNext)
  (dSeq (dIfS (dTest (dOp eqD (dVar 4) (dC (.int 2)))) (dRet (dTup (dCons (dSl (dOp ixD (dVar 1) (dC (.int 0))) (dPart (dC (.int 1))) dNoPart) (dCons (dOp ixD (dVar 1) (dC (.int 1))) dNil)))) dNext)
  (dSeq (dIfS (dTest (dOp eqD (dVar 4) (dC (.int 3)))) (dRet (dTup (dCons (dOp ixD (dVar 1) (dC (.int 0))) (dCons (dOp ixD (dFrz (dLst (dCons (dC (.int 100)) (dCons (negD (dC (.int 100))) (dCons (dC (.bl true)) (dCons (dC .non) (dCons (dC (.str "0")) (dCons (dOp powD (dC (.int 10)) (dC (.int 20))) dNil)))))))) (dOp modD (dOp divD (dVar 0) (dC (.int 24))) (dC (.int 6)))) dNil)))) dNext)
  (dSeq (dIfS (dTest (dOp eqD (dVar 4) (dC (.int 4)))) (dRet (dSl (dVar 1) dNoPart (dPart (dC (.int 1))))) dNext)
  (dSeq (dIfS (dTest (dOp eqD (dVar 4) (dC (.int 5)))) (dRet (dFrz (dList (dVar 1)))) dNext)
  (dSeq (dAsg (dOp ixD (dFrz (dLst (dCons (dC (.int 10)) (dCons (negD (dC (.int 10))) (dCons (dC (.bl true)) (dCons (dC .non) (dCons (dC (.str "1")) (dCons (dOp powD (dC (.int 10)) (dC (.int 20))) dNil)))))))) (dOp modD (dOp divD (dVar 0) (dC (.int 24))) (dC (.int 6)))) (dgSub (dVar 2) (dVar 3)))
  (dRet (dTup (dCons (dCall1 tupleD (dCons (dVar 2) dNil)) (dCons (dOp ixD (dVar 1) (dC (.int 1))) dNil))))))))))
def R_l_bad_sum_5 : DS :=
  (dSeq (dIfS (dTest (dOp eqD (dVar 4) (dC (.int 2)))) (dRet (dTup (dCons (dSl (dOp ixD (dVar 1) (dC (.int 0))) (dPart (dC (.int 1))) dNoPart) (dCons (dOp ixD (dVar 1) (dC (.int 1))) dNil)))) dNext)
  (dSeq (dIfS (dTest (dOp eqD (dVar 4) (dC (.int 3)))) (dRet (dTup (dCons (dOp ixD (dVar 1) (dC (.int 0))) (dCons (dOp ixD (dFrz (dLst (dCons (dC (.int 100)) (dCons (negD (dC (.int 100))) (dCons (dC (.bl true)) (dCons (dC .non) (dCons (dC (.str "0")) (dCons (dOp powD (dC (.int 10)) (dC (.int 20))) dNil)))))))) (dOp modD (dOp divD (dVar 0) (dC (.int 24))) (dC (.int 6)))) dNil)))) dNext)
  (dSeq (dIfS (dTest (dOp eqD (dVar 4) (dC (.int 4)))) (dRet (dSl (dVar 1) dNoPart (dPart (dC (.int 1))))) dNext)
  (dSeq (dIfS (dTest (dOp eqD (dVar 4) (dC (.int 5)))) (dRet (dFrz (dList (dVar 1)))) dNext)
  (dSeq (dAsg (dOp ixD (dFrz (dLst (dCons (dC (.int 10)) (dCons (negD (dC (.int 10))) (dCons (dC (.bl true)) (dCons (dC .non) (dCons (dC (.str "1")) (dCons (dOp powD (dC (.int 10)) (dC (.int 20))) dNil)))))))) (dOp modD (dOp divD (dVar 0) (dC (.int 24))) (dC (.int 6)))) (dgSub (dVar 2) (dVar 3)))
  (dRet (dTup (dCons (dCall1 tupleD (dCons (dVar 2) dNil)) (dCons (dOp ixD (dVar 1) (dC (.int 1))) dNil)))))))))
def R_l_bad_sum_6 : DS :=
  (dSeq (dIfS (dTest (dOp eqD (dVar 4) (dC (.int 3)))) (dRet (dTup (dCons (dOp ixD (dVar 1) (dC (.int 0))) (dCons (dOp ixD (dFrz (dLst (dCons (dC (.int 100)) (dCons (negD (dC (.int 100))) (dCons (dC (.bl true)) (dCons (dC .non) (dCons (dC (.str "0")) (dCons (dOp powD (dC (.int 10)) (dC (.int 20))) dNil)))))))) (dOp modD (dOp divD (dVar 0) (dC (.int 24))) (dC (.int 6)))) dNil)))) dNext)
  (dSeq (dIfS (dTest (dOp eqD (dVar 4) (dC (.int 4)))) (dRet (dSl (dVar 1) dNoPart (dPart (dC (.int 1))))) dNext)
  (dSeq (dIfS (dTest (dOp eqD (dVar 4) (dC (.int 5)))) (dRet (dFrz (dList (dVar 1)))) dNext)
  (dSeq (dAsg (dOp ixD (dFrz (dLst (dCons (dC (.int 10)) (dCons (negD (dC (.int 10))) (dCons (dC (.bl true)) (dCons (dC .non) (dCons (dC (.str "1")) (dCons (dOp powD (dC (.int 10)) (dC (.int 20))) dNil)))))))) (dOp modD (dOp divD (dVar 0) (dC (.int 24))) (dC (.int 6)))) (dgSub (dVar 2) (dVar 3)))
  (dRet (dTup (dCons (dCall1 tupleD (dCons (dVar 2) dNil)) (dCons (dOp ixD (dVar 1) (dC (.int 1))) dNil))))))))
def R_l_bad_sum_7 : DS :=
  (dSeq (dIfS (dTest (dOp eqD (dVar 4) (dC (.int 4)))) (dRet (dSl (dVar 1) dNoPart (dPart (dC (.int 1))))) dNext)
  (dSeq (dIfS (dTest (dOp eqD (dVar 4) (dC (.int 5)))) (dRet (dFrz (dList (dVar 1)))) dNext)
  (dSeq (dAsg (dOp ixD (dFrz (dLst (dCons (dC (.int 10)) (dCons (negD (dC (.int 10))) (dCons (dC (.bl true)) (dCons (dC .non) (dCons (dC (.str "1")) (dCons (dOp powD (dC (.int 10)) (dC (.int 20))) dNil)))))))) (dOp modD (dOp divD (dVar 0) (dC (.int 24))) (dC (.int 6)))) (dgSub (dVar 2) (dVar 3)))
  (dRet (dTup (dCons (dCall1 tupleD (dCons (dVar 2) dNil)) (dCons (dOp ixD (dVar 1) (dC (.int 1))) dNil)))))))
def R_l_bad_sum_8 : DS :=
  (dSeq (dIfS (dTest (dOp eqD (dVar 4) (dC (.int 5)))) (dRet (dFrz (dList (dVar 1)))) dNext)
  (dSeq (dAsg (dOp ixD (dFrz (dLst (dCons (dC (.int 10)) (dCons (negD (dC (.int 10))) (dCons (dC (.bl true)) (dCons (dC .non) (dCons (dC (.str "1")) (dCons (dOp powD (dC (.int 10)) (dC (.int 20))) dNil)))))))) (dOp modD (dOp divD (dVar 0) (dC (.int 24))) (dC (.int 6)))) (dgSub (dVar 2) (dVar 3)))
  (dRet (dTup (dCons (dCall1 tupleD (dCons (dVar 2) dNil)) (dCons (dOp ixD (dVar 1) (dC (.int 1))) dNil))))))
def R_l_bad_sum_9 : DS :=
  (dSeq (dAsg (dOp ixD (dFrz (dLst (dCons (dC (.int 10)) (dCons (negD (dC (.int 10))) (dCons (dC (.bl true)) (dCons (dC .non) (dCons (dC (.str "1")) (dCons (dOp powD (dC (.int 10)) (dC (.int 20))) dNil)))))))) (dOp modD (dOp divD (dVar 0) (dC (.int 24))) (dC (.int 6)))) (dgSub (dVar 2) (dVar 3)))
  (dRet (dTup (dCons (dCall1 tupleD (dCons (dVar 2) dNil)) (dCons (dOp ixD (dVar 1) (dC (.int 1))) dNil)))))
def S_l_bad_sum : DSp := fun ds O R => ∃ (c : Int) (s : Sm) (n : Nat), ds = [.int c, encS s] ∧ SmW n s ∧ 1 ≤ n ∧ n ≤ 3 ∧ ∀ d, BadSum n d → R d O
theorem len_l_bad_sum (ds : List D) (O : Own) (R : D → Own → Prop) (h : S_l_bad_sum ds O R) : ds.length = 2 := by obtain ⟨_, _, _, rfl, _⟩ := h; rfl
theorem bad_sum_nine {c : Int} {s : Sm} {n a : Nat} {O : Own} {R : D → Own → Prop} (ok : SmW n s) (ha : a < n) (h : ∀ d, BadSum n d → R d O) :
    R_l_bad_sum_9 { nx := fun _ O' => Pure O R .non O', rt := Pure O R } [some (.int c), some (encS s), some (.own O.length), some (.int (a : Nat)), some (.int (c % 8))] (O ++ [some (.lst (encI s.1))]) := by
  walk_at "w"
  refine ⟨(by decide : (0 : Int) ≤ 20 ∧ (20 : Int) ≤ 1000 ∧ (10 : Int).natAbs < 1000), ?_⟩
  refine ⟨(by decide : (0 : Int) < 24 ∧ (24 : Int) < 1073741824), ?_⟩
  refine ⟨(by decide : (0 : Int) < 6), ?_⟩
  obtain ⟨y, hy, ey⟩ : ∃ y ∈ [D.int 10, .int (-10), .bl true, .non, .str "1", .int (10 ^ Int.toNat 20)], atD [D.int 10, .int (-10), .bl true, .non, .str "1", .int (10 ^ Int.toNat 20)] (c / 24 % 6) = some y := pickL _ 6 rfl (by decide) (c / 24)
  refine oKi ey ?_
  have bad := num_bad hy
  have hdy := hd_num (n := O.length) hy
  walk_at "w"
  rw [top_get]
  have e1 : ixN (encI s.1).length ((a : Nat) : Int) = some a := by
    unfold ixN
    rw [encI_length, ok.1, if_pos (by omega), if_pos (by omega), Int.toNat_natCast]
  refine oKi e1 ?_
  rw [top_set]
  have la : a < (encI s.1).length := by rw [encI_length, ok.1]; exact ha
  have e2 : (encI s.1).set a y = encI (s.1.take a) ++ y :: encI (s.1.drop (a + 1)) := by
    rw [List.set_eq_take_append_cons_drop, if_pos la]
    unfold encI
    rw [List.map_take, List.map_drop]
  rw [e2]
  walk_at "w"
  rw [asL_top]
  walk_at "w"
  refine ⟨.tup [.tup (encI (s.1.take a) ++ y :: encI (s.1.drop (a + 1))), .int s.2], top_take, .same (.tup (.cons (.tup (HdL.append (encI_hd _) (.cons hdy (encI_hd _)))) (.cons (.int _) .nil))), h _ (.num _ y _ _ ?_ (fun z hz => ok.2.1 z (List.mem_of_mem_take hz)) bad ok.2.2)⟩
  rw [List.length_take, encI_length, List.length_drop, ok.1]
  omega
theorem sem_l_bad_sum (ds : List D) (O : Own) (R : D → Own → Prop) (h : S_l_bad_sum ds O R) : R_l_bad_sum { nx := fun _ O' => Pure O R .non O', rt := Pure O R } (startD N_l_bad_sum ds) O := by
  obtain ⟨c, s, n, rfl, ok, n1, n3, h⟩ := h
  have ls := ok.1
  obtain ⟨a, ha, ea⟩ : ∃ a : Nat, a < n ∧ c / 8 % (n : Int) = (a : Int) := ⟨(c / 8 % (n : Int)).toNat, by have := Int.emod_lt_of_pos (c / 8) (show (0 : Int) < n by omega); have := Int.emod_nonneg (c / 8) (show (n : Int) ≠ 0 by omega); omega, by have := Int.emod_nonneg (c / 8) (show (n : Int) ≠ 0 by omega); omega⟩
  have hs : Hd O.length (.tup (encI s.1)) := .tup (encI_hd _)
  have nine := bad_sum_nine (c := c) (O := O) (R := R) ok ha h
  have eight : R_l_bad_sum_8 { nx := fun _ O' => Pure O R .non O', rt := Pure O R } [some (.int c), some (encS s), some (.own O.length), some (.int (a : Nat)), some (.int (c % 8))] (O ++ [some (.lst (encI s.1))]) := by
    walk_at "w"
    refine ifD (fun _ => ?_) (fun _ => seq_nx nine)
    exact ⟨.lst [.tup (encI s.1), .int s.2], top_take, .same (.lst (.cons hs (.cons (.int _) .nil))), h _ (.lst _)⟩
  have seven : R_l_bad_sum_7 { nx := fun _ O' => Pure O R .non O', rt := Pure O R } [some (.int c), some (encS s), some (.own O.length), some (.int (a : Nat)), some (.int (c % 8))] (O ++ [some (.lst (encI s.1))]) := by
    walk_at "w"
    refine ifD (fun _ => ?_) (fun _ => seq_nx eight)
    exact ⟨.tup [.tup (encI s.1)], top_take, .same (.tup (.cons hs .nil)), h _ (.one _)⟩
  have six : R_l_bad_sum_6 { nx := fun _ O' => Pure O R .non O', rt := Pure O R } [some (.int c), some (encS s), some (.own O.length), some (.int (a : Nat)), some (.int (c % 8))] (O ++ [some (.lst (encI s.1))]) := by
    walk_at "w"
    refine ifD (fun _ => ?_) (fun _ => seq_nx seven)
    walk_at "w"
    refine ⟨(by decide : (0 : Int) ≤ 20 ∧ (20 : Int) ≤ 1000 ∧ (10 : Int).natAbs < 1000), ?_⟩
    refine ⟨(by decide : (0 : Int) < 24 ∧ (24 : Int) < 1073741824), ?_⟩
    refine ⟨(by decide : (0 : Int) < 6), ?_⟩
    obtain ⟨y, hy, ey⟩ : ∃ y ∈ [D.int 100, .int (-100), .bl true, .non, .str "0", .int (10 ^ Int.toNat 20)], atD [D.int 100, .int (-100), .bl true, .non, .str "0", .int (10 ^ Int.toNat 20)] (c / 24 % 6) = some y := pickL _ 6 rfl (by decide) (c / 24)
    refine oKi ey ?_
    exact ⟨.tup [.tup (encI s.1), y], top_take, .same (.tup (.cons hs (.cons (hd_more hy) .nil))), h _ (.more _ _ ls (more_bad hy))⟩
  have five : R_l_bad_sum_5 { nx := fun _ O' => Pure O R .non O', rt := Pure O R } [some (.int c), some (encS s), some (.own O.length), some (.int (a : Nat)), some (.int (c % 8))] (O ++ [some (.lst (encI s.1))]) := by
    walk_at "w"
    refine ifD (fun _ => ?_) (fun _ => seq_nx six)
    have e1 : cutD (encI s.1) (some 1) none = encI (s.1.drop 1) := by
      refine (cut_from (k := 1) (by rw [encI_length]; omega)).trans ?_
      unfold encI
      rw [← List.map_drop]
    walk_at "w"
    rw [e1]
    exact ⟨.tup [.tup (encI (s.1.drop 1)), .int s.2], top_take, .same (.tup (.cons (.tup (encI_hd _)) (.cons (.int _) .nil))), h _ (.len _ _ (by rw [List.length_drop]; omega))⟩
  have four : R_l_bad_sum_4 { nx := fun _ O' => Pure O R .non O', rt := Pure O R } [some (.int c), some (encS s), some (.own O.length), some (.int (a : Nat)), some (.int (c % 8))] (O ++ [some (.lst (encI s.1))]) := by
    walk_at "w"
    refine ifD (fun _ => ?_) (fun _ => seq_nx five)
    walk_at "w"
    refine ⟨by rw [encI_length]; show _ + 1 ≤ _; omega, ?_⟩
    have e1 : encI s.1 ++ [D.int 0] = encI (s.1 ++ [0]) := by unfold encI; rw [List.map_append]; rfl
    rw [e1]
    exact ⟨.tup [.tup (encI (s.1 ++ [0])), .int s.2], top_take, .same (.tup (.cons (.tup (encI_hd _)) (.cons (.int _) .nil))), h _ (.len _ _ (by rw [List.length_append]; show ¬ _ + 1 = _; omega))⟩
  have three : R_l_bad_sum_3 { nx := fun _ O' => Pure O R .non O', rt := Pure O R } [some (.int c), some (encS s), some (.own O.length), some (.int (a : Nat)), some (.int (c % 8))] (O ++ [some (.lst (encI s.1))]) := by
    walk_at "w"
    refine ifD (fun _ => ?_) (fun _ => seq_nx four)
    exact ⟨.tup [.lst (encI s.1), .int s.2], top_take, .tup (.cons (.own (Nat.le_refl _) top_get (ResL.same (encI_hd _))) (.cons (.same (.int _)) .nil)), h _ (.nums _ _)⟩
  walk_at "w"
  refine ⟨(by decide : (0 : Int) < 8 ∧ (8 : Int) < 1073741824), ?_⟩
  walk_at "w"
  rw [asL_top]
  walk_at "w"
  rw [encI_length, ls]
  refine ⟨by omega, ?_⟩
  simp only [ea]
  refine ⟨(by decide : (0 : Int) < 8), ?_⟩
  exact three
end DL

/-! The law k02: rows that are none. -/
namespace DL
open PySem L2
local macro_rules | `(tactic| walk_at "w") => `(tactic| conv => whnf)
def N_l_bad_row : List Str := ["_law_cell", "_law_row_here", "_law_many", "_law_way", "_law_parts", "_law_wrong"]
def R_l_bad_row : DS :=
  (dSeq (dAsg (dOp modD (dVar 0) (dC (.int 6))) (dgName 3))
  (dSeq (dAsg (dFrz (dList (dVar 1))) (dgName 4))
  (dSeq (dIfS (dTest (dOp eqD (dVar 3) (dC (.int 0)))) (dRet (dVar 4)) dNext)
  (dSeq (dIfS (dTest (dOp eqD (dVar 3) (dC (.int 1)))) (dRet (dCall1 tupleD (dCons (dSl (dVar 4) dNoPart (dPart (negD (dC (.int 1))))) dNil))) dNext)
  (dSeq (dIfS (dTest (dOp eqD (dVar 3) (dC (.int 2)))) (dRet (dCall1 tupleD (dCons (dOp addD (dVar 4) (dFrz (dLst (dCons (dTup dNil) dNil)))) dNil))) dNext)
  (dSeq (dIfS (dTest (dOp eqD (dVar 3) (dC (.int 3)))) (dRet (dOp addD (dTup (dCons (dOp ixD (dFrz (dLst (dCons (dC (.str "puts")) (dCons (dC (.str "")) (dCons (dC .non) (dCons (dC (.bl true)) (dCons (dC (.int 0)) (dCons (dFrz (dLst dNil)) (dCons dEmpty (dCons (dFrz (dLst (dCons (dOp ixD (dVar 1) (dC (.int 0))) dNil))) dNil)))))))))) (dOp modD (dOp divD (dVar 0) (dC (.int 6))) (dC (.int 8)))) dNil)) (dSl (dVar 1) (dPart (dC (.int 1))) dNoPart))) dNext)
  (dSeq (dIfS (dAnd (dTest (dOp eqD (dOp ixD (dVar 1) (dC (.int 0))) (dC (.str "put")))) (dTest (dOp eqD (dVar 3) (dC (.int 4))))) (dRet (dTup (dCons (dC (.str "put")) (dCons (dOp ixD (dFrz (dLst (dCons (negD (dC (.int 1))) (dCons (dVar 2) (dCons (dC (.bl true)) (dCons (dC .non) (dCons (dC (.str "0")) dNil))))))) (dOp modD (dOp divD (dVar 0) (dC (.int 6))) (dC (.int 5)))) (dCons (dOp ixD (dVar 1) (dC (.int 2))) dNil))))) dNext)
  (dSeq (dIfS (dTest (dOp eqD (dOp ixD (dVar 1) (dC (.int 0))) (dC (.str "put")))) (dRet (dTup (dCons (dC (.str "put")) (dCons (dOp ixD (dVar 1) (dC (.int 1))) (dCons (dCall S_l_bad_sum (dCons (dOp divD (dVar 0) (dC (.int 6))) (dCons (dOp ixD (dVar 1) (dC (.int 2))) dNil))) dNil))))) dNext)
  (dSeq (dIfS (dAnd (dTest (dOp eqD (dOp ixD (dVar 1) (dC (.int 0))) (dC (.str "loop")))) (dTest (dOp eqD (dVar 3) (dC (.int 4))))) (dSeq (dAsg (dTup (dCons (dCall S_l_bad_sum (dCons (dOp divD (dVar 0) (dC (.int 6))) (dCons (dOp ixD (dVar 1) (dC (.int 1))) dNil))) dNil)) (dgName 5))
  (dRet (dTup (dCons (dC (.str "loop")) (dCons (dOp ixD (dVar 1) (dC (.int 1))) (dCons (dOp ixD (dFrz (dLst (dCons (dFrz (dList (dOp ixD (dVar 1) (dC (.int 2))))) (dCons (dOp mulTD (dTup (dCons (dOp ixD (dVar 1) (dC (.int 1))) dNil)) (dC (.int 4))) (dCons (dVar 5) (dCons (dC .non) dNil)))))) (dOp modD (dOp divD (dVar 0) (dC (.int 48))) (dC (.int 4)))) (dCons (dOp ixD (dVar 1) (dC (.int 3))) dNil))))))) dNext)
  (dSeq (dIfS (dAnd (dTest (dOp inD (dOp ixD (dVar 1) (dC (.int 0))) (dTup (dCons (dC (.str "if")) (dCons (dC (.str "loop")) dNil))))) (dTest (dOp eqD (dOp modD (dOp divD (dVar 0) (dC (.int 6))) (dC (.int 3))) (dC (.int 1))))) (dRet (dOp addD (dSl (dVar 1) dNoPart (dPart (dC (.int 3)))) (dTup (dCons (dOp ixD (dFrz (dLst (dCons (dFrz (dList (dOp ixD (dVar 1) (dC (.int 3))))) (dCons (dC .non) (dCons (dC (.str "")) (dCons (dTup (dCons (dC .non) dNil)) dNil)))))) (dOp modD (dOp divD (dVar 0) (dC (.int 18))) (dC (.int 4)))) dNil)))) dNext)
  (dRet (dOp addD (dTup (dCons (dOp ixD (dVar 1) (dC (.int 0))) (dCons (dCall S_l_bad_sum (dCons (dOp divD (dVar 0) (dC (.int 6))) (dCons (dOp ixD (dVar 1) (dC (.int 1))) dNil))) dNil))) (dSl (dVar 1) (dPart (dC (.int 2))) dNoPart)))))))))))))
def R_l_bad_row_2 : DS :=
  (dSeq (dIfS (dTest (dOp eqD (dVar 3) (dC (.int 0)))) (dRet (dVar 4)) dNext)
  (dSeq (dIfS (dTest (dOp eqD (dVar 3) (dC (.int 1)))) (dRet (dCall1 tupleD (dCons (dSl (dVar 4) dNoPart (dPart (negD (dC (.int 1))))) dNil))) dNext)
  (dSeq (dIfS (dTest (dOp eqD (dVar 3) (dC (.int 2)))) (dRet (dCall1 tupleD (dCons (dOp addD (dVar 4) (dFrz (dLst (dCons (dTup dNil) dNil)))) dNil))) dNext)
  (dSeq (dIfS (dTest (dOp eqD (dVar 3) (dC (.int 3)))) (dRet (dOp addD (dTup (dCons (dOp ixD (dFrz (dLst (dCons (dC (.str "puts")) (dCons (dC (.str "")) (dCons (dC .non) (dCons (dC (.bl true)) (dCons (dC (.int 0)) (dCons (dFrz (dLst dNil)) (dCons dEmpty (dCons (dFrz (dLst (dCons (dOp ixD (dVar 1) (dC (.int 0))) dNil))) dNil)))))))))) (dOp modD (dOp divD (dVar 0) (dC (.int 6))) (dC (.int 8)))) dNil)) (dSl (dVar 1) (dPart (dC (.int 1))) dNoPart))) dNext)
  (dSeq (dIfS (dAnd (dTest (dOp eqD (dOp ixD (dVar 1) (dC (.int 0))) (dC (.str "put")))) (dTest (dOp eqD (dVar 3) (dC (.int 4))))) (dRet (dTup (dCons (dC (.str "put")) (dCons (dOp ixD (dFrz (dLst (dCons (negD (dC (.int 1))) (dCons (dVar 2) (dCons (dC (.bl true)) (dCons (dC .non) (dCons (dC (.str "0")) dNil))))))) (dOp modD (dOp divD (dVar 0) (dC (.int 6))) (dC (.int 5)))) (dCons (dOp ixD (dVar 1) (dC (.int 2))) dNil))))) dNext)
  (dSeq (dIfS (dTest (dOp eqD (dOp ixD (dVar 1) (dC (.int 0))) (dC (.str "put")))) (dRet (dTup (dCons (dC (.str "put")) (dCons (dOp ixD (dVar 1) (dC (.int 1))) (dCons (dCall S_l_bad_sum (dCons (dOp divD (dVar 0) (dC (.int 6))) (dCons (dOp ixD (dVar 1) (dC (.int 2))) dNil))) dNil))))) dNext)
  (dSeq (dIfS (dAnd (dTest (dOp eqD (dOp ixD (dVar 1) (dC (.int 0))) (dC (.str "loop")))) (dTest (dOp eqD (dVar 3) (dC (.int 4))))) (dSeq (dAsg (dTup (dCons (dCall S_l_bad_sum (dCons (dOp divD (dVar 0) (dC (.int 6))) (dCons (dOp ixD (dVar 1) (dC (.int 1))) dNil))) dNil)) (dgName 5))
  (dRet (dTup (dCons (dC (.str "loop")) (dCons (dOp ixD (dVar 1) (dC (.int 1))) (dCons (dOp ixD (dFrz (dLst (dCons (dFrz (dList (dOp ixD (dVar 1) (dC (.int 2))))) (dCons (dOp mulTD (dTup (dCons (dOp ixD (dVar 1) (dC (.int 1))) dNil)) (dC (.int 4))) (dCons (dVar 5) (dCons (dC .non) dNil)))))) (dOp modD (dOp divD (dVar 0) (dC (.int 48))) (dC (.int 4)))) (dCons (dOp ixD (dVar 1) (dC (.int 3))) dNil))))))) dNext)
  (dSeq (dIfS (dAnd (dTest (dOp inD (dOp ixD (dVar 1) (dC (.int 0))) (dTup (dCons (dC (.str "if")) (dCons (dC (.str "loop")) dNil))))) (dTest (dOp eqD (dOp modD (dOp divD (dVar 0) (dC (.int 6))) (dC (.int 3))) (dC (.int 1))))) (dRet (dOp addD (dSl (dVar 1) dNoPart (dPart (dC (.int 3)))) (dTup (dCons (dOp ixD (dFrz (dLst (dCons (dFrz (dList (dOp ixD (dVar 1) (dC (.int 3))))) (dCons (dC .non) (dCons (dC (.str "")) (dCons (dTup (dCons (dC .non) dNil)) dNil)))))) (dOp modD (dOp divD (dVar 0) (dC (.int 18))) (dC (.int 4)))) dNil)))) dNext)
  (dRet (dOp addD (dTup (dCons (dOp ixD (dVar 1) (dC (.int 0))) (dCons (dCall S_l_bad_sum (dCons (dOp divD (dVar 0) (dC (.int 6))) (dCons (dOp ixD (dVar 1) (dC (.int 1))) dNil))) dNil))) (dSl (dVar 1) (dPart (dC (.int 2))) dNoPart)))))))))))
def R_l_bad_row_3 : DS :=
  (dSeq (dIfS (dTest (dOp eqD (dVar 3) (dC (.int 1)))) (dRet (dCall1 tupleD (dCons (dSl (dVar 4) dNoPart (dPart (negD (dC (.int 1))))) dNil))) dNext)
  (dSeq (dIfS (dTest (dOp eqD (dVar 3) (dC (.int 2)))) (dRet (dCall1 tupleD (dCons (dOp addD (dVar 4) (dFrz (dLst (dCons (dTup dNil) dNil)))) dNil))) dNext)
  (dSeq (dIfS (dTest (dOp eqD (dVar 3) (dC (.int 3)))) (dRet (dOp addD (dTup (dCons (dOp ixD (dFrz (dLst (dCons (dC (.str "puts")) (dCons (dC (.str "")) (dCons (dC .non) (dCons (dC (.bl true)) (dCons (dC (.int 0)) (dCons (dFrz (dLst dNil)) (dCons dEmpty (dCons (dFrz (dLst (dCons (dOp ixD (dVar 1) (dC (.int 0))) dNil))) dNil)))))))))) (dOp modD (dOp divD (dVar 0) (dC (.int 6))) (dC (.int 8)))) dNil)) (dSl (dVar 1) (dPart (dC (.int 1))) dNoPart))) dNext)
  (dSeq (dIfS (dAnd (dTest (dOp eqD (dOp ixD (dVar 1) (dC (.int 0))) (dC (.str "put")))) (dTest (dOp eqD (dVar 3) (dC (.int 4))))) (dRet (dTup (dCons (dC (.str "put")) (dCons (dOp ixD (dFrz (dLst (dCons (negD (dC (.int 1))) (dCons (dVar 2) (dCons (dC (.bl true)) (dCons (dC .non) (dCons (dC (.str "0")) dNil))))))) (dOp modD (dOp divD (dVar 0) (dC (.int 6))) (dC (.int 5)))) (dCons (dOp ixD (dVar 1) (dC (.int 2))) dNil))))) dNext)
  (dSeq (dIfS (dTest (dOp eqD (dOp ixD (dVar 1) (dC (.int 0))) (dC (.str "put")))) (dRet (dTup (dCons (dC (.str "put")) (dCons (dOp ixD (dVar 1) (dC (.int 1))) (dCons (dCall S_l_bad_sum (dCons (dOp divD (dVar 0) (dC (.int 6))) (dCons (dOp ixD (dVar 1) (dC (.int 2))) dNil))) dNil))))) dNext)
  (dSeq (dIfS (dAnd (dTest (dOp eqD (dOp ixD (dVar 1) (dC (.int 0))) (dC (.str "loop")))) (dTest (dOp eqD (dVar 3) (dC (.int 4))))) (dSeq (dAsg (dTup (dCons (dCall S_l_bad_sum (dCons (dOp divD (dVar 0) (dC (.int 6))) (dCons (dOp ixD (dVar 1) (dC (.int 1))) dNil))) dNil)) (dgName 5))
  (dRet (dTup (dCons (dC (.str "loop")) (dCons (dOp ixD (dVar 1) (dC (.int 1))) (dCons (dOp ixD (dFrz (dLst (dCons (dFrz (dList (dOp ixD (dVar 1) (dC (.int 2))))) (dCons (dOp mulTD (dTup (dCons (dOp ixD (dVar 1) (dC (.int 1))) dNil)) (dC (.int 4))) (dCons (dVar 5) (dCons (dC .non) dNil)))))) (dOp modD (dOp divD (dVar 0) (dC (.int 48))) (dC (.int 4)))) (dCons (dOp ixD (dVar 1) (dC (.int 3))) dNil))))))) dNext)
  (dSeq (dIfS (dAnd (dTest (dOp inD (dOp ixD (dVar 1) (dC (.int 0))) (dTup (dCons (dC (.str "if")) (dCons (dC (.str "loop")) dNil))))) (dTest (dOp eqD (dOp modD (dOp divD (dVar 0) (dC (.int 6))) (dC (.int 3))) (dC (.int 1))))) (dRet (dOp addD (dSl (dVar 1) dNoPart (dPart (dC (.int 3)))) (dTup (dCons (dOp ixD (dFrz (dLst (dCons (dFrz (dList (dOp ixD (dVar 1) (dC (.int 3))))) (dCons (dC .non) (dCons (dC (.str "")) (dCons (dTup (dCons (dC .non) dNil)) dNil)))))) (dOp modD (dOp divD (dVar 0) (dC (.int 18))) (dC (.int 4)))) dNil)))) dNext)
  (dRet (dOp addD (dTup (dCons (dOp ixD (dVar 1) (dC (.int 0))) (dCons (dCall S_l_bad_sum (dCons (dOp divD (dVar 0) (dC (.int 6))) (dCons (dOp ixD (dVar 1) (dC (.int 1))) dNil))) dNil))) (dSl (dVar 1) (dPart (dC (.int 2))) dNoPart))))))))))
def R_l_bad_row_4 : DS :=
  (dSeq (dIfS (dTest (dOp eqD (dVar 3) (dC (.int 2)))) (dRet (dCall1 tupleD (dCons (dOp addD (dVar 4) (dFrz (dLst (dCons (dTup dNil) dNil)))) dNil))) dNext)
  (dSeq (dIfS (dTest (dOp eqD (dVar 3) (dC (.int 3)))) (dRet (dOp addD (dTup (dCons (dOp ixD (dFrz (dLst (dCons (dC (.str "puts")) (dCons (dC (.str "")) (dCons (dC .non) (dCons (dC (.bl true)) (dCons (dC (.int 0)) (dCons (dFrz (dLst dNil)) (dCons dEmpty (dCons (dFrz (dLst (dCons (dOp ixD (dVar 1) (dC (.int 0))) dNil))) dNil)))))))))) (dOp modD (dOp divD (dVar 0) (dC (.int 6))) (dC (.int 8)))) dNil)) (dSl (dVar 1) (dPart (dC (.int 1))) dNoPart))) dNext)
  (dSeq (dIfS (dAnd (dTest (dOp eqD (dOp ixD (dVar 1) (dC (.int 0))) (dC (.str "put")))) (dTest (dOp eqD (dVar 3) (dC (.int 4))))) (dRet (dTup (dCons (dC (.str "put")) (dCons (dOp ixD (dFrz (dLst (dCons (negD (dC (.int 1))) (dCons (dVar 2) (dCons (dC (.bl true)) (dCons (dC .non) (dCons (dC (.str "0")) dNil))))))) (dOp modD (dOp divD (dVar 0) (dC (.int 6))) (dC (.int 5)))) (dCons (dOp ixD (dVar 1) (dC (.int 2))) dNil))))) dNext)
  (dSeq (dIfS (dTest (dOp eqD (dOp ixD (dVar 1) (dC (.int 0))) (dC (.str "put")))) (dRet (dTup (dCons (dC (.str "put")) (dCons (dOp ixD (dVar 1) (dC (.int 1))) (dCons (dCall S_l_bad_sum (dCons (dOp divD (dVar 0) (dC (.int 6))) (dCons (dOp ixD (dVar 1) (dC (.int 2))) dNil))) dNil))))) dNext)
  (dSeq (dIfS (dAnd (dTest (dOp eqD (dOp ixD (dVar 1) (dC (.int 0))) (dC (.str "loop")))) (dTest (dOp eqD (dVar 3) (dC (.int 4))))) (dSeq (dAsg (dTup (dCons (dCall S_l_bad_sum (dCons (dOp divD (dVar 0) (dC (.int 6))) (dCons (dOp ixD (dVar 1) (dC (.int 1))) dNil))) dNil)) (dgName 5))
  (dRet (dTup (dCons (dC (.str "loop")) (dCons (dOp ixD (dVar 1) (dC (.int 1))) (dCons (dOp ixD (dFrz (dLst (dCons (dFrz (dList (dOp ixD (dVar 1) (dC (.int 2))))) (dCons (dOp mulTD (dTup (dCons (dOp ixD (dVar 1) (dC (.int 1))) dNil)) (dC (.int 4))) (dCons (dVar 5) (dCons (dC .non) dNil)))))) (dOp modD (dOp divD (dVar 0) (dC (.int 48))) (dC (.int 4)))) (dCons (dOp ixD (dVar 1) (dC (.int 3))) dNil))))))) dNext)
  (dSeq (dIfS (dAnd (dTest (dOp inD (dOp ixD (dVar 1) (dC (.int 0))) (dTup (dCons (dC (.str "if")) (dCons (dC (.str "loop")) dNil))))) (dTest (dOp eqD (dOp modD (dOp divD (dVar 0) (dC (.int 6))) (dC (.int 3))) (dC (.int 1))))) (dRet (dOp addD (dSl (dVar 1) dNoPart (dPart (dC (.int 3)))) (dTup (dCons (dOp ixD (dFrz (dLst (dCons (dFrz (dList (dOp ixD (dVar 1) (dC (.int 3))))) (dCons (dC .non) (dCons (dC (.str "")) (dCons (dTup (dCons (dC .non) dNil)) dNil)))))) (dOp modD (dOp divD (dVar 0) (dC (.int 18))) (dC (.int 4)))) dNil)))) dNext)
  (dRet (dOp addD (dTup (dCons (dOp ixD (dVar 1) (dC (.int 0))) (dCons (dCall S_l_bad_sum (dCons (dOp divD (dVar 0) (dC (.int 6))) (dCons (dOp ixD (dVar 1) (dC (.int 1))) dNil))) dNil))) (dSl (dVar 1) (dPart (dC (.int 2))) dNoPart)))))))))
def R_l_bad_row_5 : DS :=
  (dSeq (dIfS (dTest (dOp eqD (dVar 3) (dC (.int 3)))) (dRet (dOp addD (dTup (dCons (dOp ixD (dFrz (dLst (dCons (dC (.str "puts")) (dCons (dC (.str "")) (dCons (dC .non) (dCons (dC (.bl true)) (dCons (dC (.int 0)) (dCons (dFrz (dLst dNil)) (dCons dEmpty (dCons (dFrz (dLst (dCons (dOp ixD (dVar 1) (dC (.int 0))) dNil))) dNil)))))))))) (dOp modD (dOp divD (dVar 0) (dC (.int 6))) (dC (.int 8)))) dNil)) (dSl (dVar 1) (dPart (dC (.int 1))) dNoPart))) dNext)
  (dSeq (dIfS (dAnd (dTest (dOp eqD (dOp ixD (dVar 1) (dC (.int 0))) (dC (.str "put")))) (dTest (dOp eqD (dVar 3) (dC (.int 4))))) (dRet (dTup (dCons (dC (.str "put")) (dCons (dOp ixD (dFrz (dLst (dCons (negD (dC (.int 1))) (dCons (dVar 2) (dCons (dC (.bl true)) (dCons (dC .non) (dCons (dC (.str "0")) dNil))))))) (dOp modD (dOp divD (dVar 0) (dC (.int 6))) (dC (.int 5)))) (dCons (dOp ixD (dVar 1) (dC (.int 2))) dNil))))) dNext)
  (dSeq (dIfS (dTest (dOp eqD (dOp ixD (dVar 1) (dC (.int 0))) (dC (.str "put")))) (dRet (dTup (dCons (dC (.str "put")) (dCons (dOp ixD (dVar 1) (dC (.int 1))) (dCons (dCall S_l_bad_sum (dCons (dOp divD (dVar 0) (dC (.int 6))) (dCons (dOp ixD (dVar 1) (dC (.int 2))) dNil))) dNil))))) dNext)
  (dSeq (dIfS (dAnd (dTest (dOp eqD (dOp ixD (dVar 1) (dC (.int 0))) (dC (.str "loop")))) (dTest (dOp eqD (dVar 3) (dC (.int 4))))) (dSeq (dAsg (dTup (dCons (dCall S_l_bad_sum (dCons (dOp divD (dVar 0) (dC (.int 6))) (dCons (dOp ixD (dVar 1) (dC (.int 1))) dNil))) dNil)) (dgName 5))
  (dRet (dTup (dCons (dC (.str "loop")) (dCons (dOp ixD (dVar 1) (dC (.int 1))) (dCons (dOp ixD (dFrz (dLst (dCons (dFrz (dList (dOp ixD (dVar 1) (dC (.int 2))))) (dCons (dOp mulTD (dTup (dCons (dOp ixD (dVar 1) (dC (.int 1))) dNil)) (dC (.int 4))) (dCons (dVar 5) (dCons (dC .non) dNil)))))) (dOp modD (dOp divD (dVar 0) (dC (.int 48))) (dC (.int 4)))) (dCons (dOp ixD (dVar 1) (dC (.int 3))) dNil))))))) dNext)
  (dSeq (dIfS (dAnd (dTest (dOp inD (dOp ixD (dVar 1) (dC (.int 0))) (dTup (dCons (dC (.str "if")) (dCons (dC (.str "loop")) dNil))))) (dTest (dOp eqD (dOp modD (dOp divD (dVar 0) (dC (.int 6))) (dC (.int 3))) (dC (.int 1))))) (dRet (dOp addD (dSl (dVar 1) dNoPart (dPart (dC (.int 3)))) (dTup (dCons (dOp ixD (dFrz (dLst (dCons (dFrz (dList (dOp ixD (dVar 1) (dC (.int 3))))) (dCons (dC .non) (dCons (dC (.str "")) (dCons (dTup (dCons (dC .non) dNil)) dNil)))))) (dOp modD (dOp divD (dVar 0) (dC (.int 18))) (dC (.int 4)))) dNil)))) dNext)
  (dRet (dOp addD (dTup (dCons (dOp ixD (dVar 1) (dC (.int 0))) (dCons (dCall S_l_bad_sum (dCons (dOp divD (dVar 0) (dC (.int 6))) (dCons (dOp ixD (dVar 1) (dC (.int 1))) dNil))) dNil))) (dSl (dVar 1) (dPart (dC (.int 2))) dNoPart))))))))
def R_l_bad_row_6 : DS :=
  (dSeq (dIfS (dAnd (dTest (dOp eqD (dOp ixD (dVar 1) (dC (.int 0))) (dC (.str "put")))) (dTest (dOp eqD (dVar 3) (dC (.int 4))))) (dRet (dTup (dCons (dC (.str "put")) (dCons (dOp ixD (dFrz (dLst (dCons (negD (dC (.int 1))) (dCons (dVar 2) (dCons (dC (.bl true)) (dCons (dC .non) (dCons (dC (.str "0")) dNil))))))) (dOp modD (dOp divD (dVar 0) (dC (.int 6))) (dC (.int 5)))) (dCons (dOp ixD (dVar 1) (dC (.int 2))) dNil))))) dNext)
  (dSeq (dIfS (dTest (dOp eqD (dOp ixD (dVar 1) (dC (.int 0))) (dC (.str "put")))) (dRet (dTup (dCons (dC (.str "put")) (dCons (dOp ixD (dVar 1) (dC (.int 1))) (dCons (dCall S_l_bad_sum (dCons (dOp divD (dVar 0) (dC (.int 6))) (dCons (dOp ixD (dVar 1) (dC (.int 2))) dNil))) dNil))))) dNext)
  (dSeq (dIfS (dAnd (dTest (dOp eqD (dOp ixD (dVar 1) (dC (.int 0))) (dC (.str "loop")))) (dTest (dOp eqD (dVar 3) (dC (.int 4))))) (dSeq (dAsg (dTup (dCons (dCall S_l_bad_sum (dCons (dOp divD (dVar 0) (dC (.int 6))) (dCons (dOp ixD (dVar 1) (dC (.int 1))) dNil))) dNil)) (dgName 5))
  (dRet (dTup (dCons (dC (.str "loop")) (dCons (dOp ixD (dVar 1) (dC (.int 1))) (dCons (dOp ixD (dFrz (dLst (dCons (dFrz (dList (dOp ixD (dVar 1) (dC (.int 2))))) (dCons (dOp mulTD (dTup (dCons (dOp ixD (dVar 1) (dC (.int 1))) dNil)) (dC (.int 4))) (dCons (dVar 5) (dCons (dC .non) dNil)))))) (dOp modD (dOp divD (dVar 0) (dC (.int 48))) (dC (.int 4)))) (dCons (dOp ixD (dVar 1) (dC (.int 3))) dNil))))))) dNext)
  (dSeq (dIfS (dAnd (dTest (dOp inD (dOp ixD (dVar 1) (dC (.int 0))) (dTup (dCons (dC (.str "if")) (dCons (dC (.str "loop")) dNil))))) (dTest (dOp eqD (dOp modD (dOp divD (dVar 0) (dC (.int 6))) (dC (.int 3))) (dC (.int 1))))) (dRet (dOp addD (dSl (dVar 1) dNoPart (dPart (dC (.int 3)))) (dTup (dCons (dOp ixD (dFrz (dLst (dCons (dFrz (dList (dOp ixD (dVar 1) (dC (.int 3))))) (dCons (dC .non) (dCons (dC (.str "")) (dCons (dTup (dCons (dC .non) dNil)) dNil)))))) (dOp modD (dOp divD (dVar 0) (dC (.int 18))) (dC (.int 4)))) dNil)))) dNext)
  (dRet (dOp addD (dTup (dCons (dOp ixD (dVar 1) (dC (.int 0))) (dCons (dCall S_l_bad_sum (dCons (dOp divD (dVar 0) (dC (.int 6))) (dCons (dOp ixD (dVar 1) (dC (.int 1))) dNil))) dNil))) (dSl (dVar 1) (dPart (dC (.int 2))) dNoPart)))))))
def R_l_bad_row_7 : DS :=
  (dSeq (dIfS (dTest (dOp eqD (dOp ixD (dVar 1) (dC (.int 0))) (dC (.str "put")))) (dRet (dTup (dCons (dC (.str "put")) (dCons (dOp ixD (dVar 1) (dC (.int 1))) (dCons (dCall S_l_bad_sum (dCons (dOp divD (dVar 0) (dC (.int 6))) (dCons (dOp ixD (dVar 1) (dC (.int 2))) dNil))) dNil))))) dNext)
  (dSeq (dIfS (dAnd (dTest (dOp eqD (dOp ixD (dVar 1) (dC (.int 0))) (dC (.str "loop")))) (dTest (dOp eqD (dVar 3) (dC (.int 4))))) (dSeq (dAsg (dTup (dCons (dCall S_l_bad_sum (dCons (dOp divD (dVar 0) (dC (.int 6))) (dCons (dOp ixD (dVar 1) (dC (.int 1))) dNil))) dNil)) (dgName 5))
  (dRet (dTup (dCons (dC (.str "loop")) (dCons (dOp ixD (dVar 1) (dC (.int 1))) (dCons (dOp ixD (dFrz (dLst (dCons (dFrz (dList (dOp ixD (dVar 1) (dC (.int 2))))) (dCons (dOp mulTD (dTup (dCons (dOp ixD (dVar 1) (dC (.int 1))) dNil)) (dC (.int 4))) (dCons (dVar 5) (dCons (dC .non) dNil)))))) (dOp modD (dOp divD (dVar 0) (dC (.int 48))) (dC (.int 4)))) (dCons (dOp ixD (dVar 1) (dC (.int 3))) dNil))))))) dNext)
  (dSeq (dIfS (dAnd (dTest (dOp inD (dOp ixD (dVar 1) (dC (.int 0))) (dTup (dCons (dC (.str "if")) (dCons (dC (.str "loop")) dNil))))) (dTest (dOp eqD (dOp modD (dOp divD (dVar 0) (dC (.int 6))) (dC (.int 3))) (dC (.int 1))))) (dRet (dOp addD (dSl (dVar 1) dNoPart (dPart (dC (.int 3)))) (dTup (dCons (dOp ixD (dFrz (dLst (dCons (dFrz (dList (dOp ixD (dVar 1) (dC (.int 3))))) (dCons (dC .non) (dCons (dC (.str "")) (dCons (dTup (dCons (dC .non) dNil)) dNil)))))) (dOp modD (dOp divD (dVar 0) (dC (.int 18))) (dC (.int 4)))) dNil)))) dNext)
  (dRet (dOp addD (dTup (dCons (dOp ixD (dVar 1) (dC (.int 0))) (dCons (dCall S_l_bad_sum (dCons (dOp divD (dVar 0) (dC (.int 6))) (dCons (dOp ixD (dVar 1) (dC (.int 1))) dNil))) dNil))) (dSl (dVar 1) (dPart (dC (.int 2))) dNoPart))))))
def R_l_bad_row_8 : DS :=
  (dSeq (dIfS (dAnd (dTest (dOp eqD (dOp ixD (dVar 1) (dC (.int 0))) (dC (.str "loop")))) (dTest (dOp eqD (dVar 3) (dC (.int 4))))) (dSeq (dAsg (dTup (dCons (dCall S_l_bad_sum (dCons (dOp divD (dVar 0) (dC (.int 6))) (dCons (dOp ixD (dVar 1) (dC (.int 1))) dNil))) dNil)) (dgName 5))
  (dRet (dTup (dCons (dC (.str "loop")) (dCons (dOp ixD (dVar 1) (dC (.int 1))) (dCons (dOp ixD (dFrz (dLst (dCons (dFrz (dList (dOp ixD (dVar 1) (dC (.int 2))))) (dCons (dOp mulTD (dTup (dCons (dOp ixD (dVar 1) (dC (.int 1))) dNil)) (dC (.int 4))) (dCons (dVar 5) (dCons (dC .non) dNil)))))) (dOp modD (dOp divD (dVar 0) (dC (.int 48))) (dC (.int 4)))) (dCons (dOp ixD (dVar 1) (dC (.int 3))) dNil))))))) dNext)
  (dSeq (dIfS (dAnd (dTest (dOp inD (dOp ixD (dVar 1) (dC (.int 0))) (dTup (dCons (dC (.str "if")) (dCons (dC (.str "loop")) dNil))))) (dTest (dOp eqD (dOp modD (dOp divD (dVar 0) (dC (.int 6))) (dC (.int 3))) (dC (.int 1))))) (dRet (dOp addD (dSl (dVar 1) dNoPart (dPart (dC (.int 3)))) (dTup (dCons (dOp ixD (dFrz (dLst (dCons (dFrz (dList (dOp ixD (dVar 1) (dC (.int 3))))) (dCons (dC .non) (dCons (dC (.str "")) (dCons (dTup (dCons (dC .non) dNil)) dNil)))))) (dOp modD (dOp divD (dVar 0) (dC (.int 18))) (dC (.int 4)))) dNil)))) dNext)
  (dRet (dOp addD (dTup (dCons (dOp ixD (dVar 1) (dC (.int 0))) (dCons (dCall S_l_bad_sum (dCons (dOp divD (dVar 0) (dC (.int 6))) (dCons (dOp ixD (dVar 1) (dC (.int 1))) dNil))) dNil))) (dSl (dVar 1) (dPart (dC (.int 2))) dNoPart)))))
def R_l_bad_row_9 : DS :=
  (dSeq (dIfS (dAnd (dTest (dOp inD (dOp ixD (dVar 1) (dC (.int 0))) (dTup (dCons (dC (.str "if")) (dCons (dC (.str "loop")) dNil))))) (dTest (dOp eqD (dOp modD (dOp divD (dVar 0) (dC (.int 6))) (dC (.int 3))) (dC (.int 1))))) (dRet (dOp addD (dSl (dVar 1) dNoPart (dPart (dC (.int 3)))) (dTup (dCons (dOp ixD (dFrz (dLst (dCons (dFrz (dList (dOp ixD (dVar 1) (dC (.int 3))))) (dCons (dC .non) (dCons (dC (.str "")) (dCons (dTup (dCons (dC .non) dNil)) dNil)))))) (dOp modD (dOp divD (dVar 0) (dC (.int 18))) (dC (.int 4)))) dNil)))) dNext)
  (dRet (dOp addD (dTup (dCons (dOp ixD (dVar 1) (dC (.int 0))) (dCons (dCall S_l_bad_sum (dCons (dOp divD (dVar 0) (dC (.int 6))) (dCons (dOp ixD (dVar 1) (dC (.int 1))) dNil))) dNil))) (dSl (dVar 1) (dPart (dC (.int 2))) dNoPart))))
def R_l_bad_row_10 : DS :=
  (dRet (dOp addD (dTup (dCons (dOp ixD (dVar 1) (dC (.int 0))) (dCons (dCall S_l_bad_sum (dCons (dOp divD (dVar 0) (dC (.int 6))) (dCons (dOp ixD (dVar 1) (dC (.int 1))) dNil))) dNil))) (dSl (dVar 1) (dPart (dC (.int 2))) dNoPart)))
def S_l_bad_row : DSp := fun ds O R => ∃ (c : Int) (r : Row) (n deep : Nat), ds = [.int c, encR r, .int n] ∧ okR n r deep ∧ 1 ≤ n ∧ n ≤ 3 ∧ ∀ (d : D) (O' : Own) (q : Option Nat), O'.take O.length = O → DicQ O' q → BadRow q n deep d → R d O'
theorem len_l_bad_row (ds : List D) (O : Own) (R : D → Own → Prop) (h : S_l_bad_row ds O R) : ds.length = 3 := by obtain ⟨_, _, _, _, rfl, _⟩ := h; rfl
theorem dicN {O : Own} : DicQ O none := fun _ z => by cases z
theorem dicT {O : Own} : DicQ (O ++ [some (.dic [])]) (some O.length) := fun h e => by cases e; exact ⟨_, top_get⟩
theorem tag_bad {k : Nat} {s : Str} {y : D} (ok : PyData.strOk s = true) (h : y ∈ [D.str "puts", .str "", .non, .bl true, .int 0, .lst [], .own k, .lst [.str s]]) : NoTag (some k) y := by
  simp only [List.mem_cons, List.not_mem_nil, or_false] at h
  rcases h with rfl | rfl | rfl | rfl | rfl | rfl | rfl | rfl
  · exact .str _ (by decide +kernel) (by decide +kernel)
  · exact .str _ (by decide +kernel) (by decide +kernel)
  · exact .non
  · exact .bl _
  · exact .int _
  · exact .nil
  · exact .dic _ rfl
  · exact .lst _ ok
theorem box_bad {n : Nat} {y : D} (h : y ∈ [D.int (-1), .int n, .bl true, .non, .str "0"]) : Among 0 ((n : Int) - 1) y false := by
  simp only [List.mem_cons, List.not_mem_nil, or_false] at h
  rcases h with rfl | rfl | rfl | rfl | rfl
  · exact among_f (by omega)
  · exact among_f (by omega)
  · exact .no (.bl _)
  · exact .no .non
  · exact .no (.str _)
theorem rows_bad {q : Option Nat} {n d : Nat} {l : List D} {y : D} (h : y ∈ [D.lst l, .non, .str "", .tup [.non]]) : BadRows q n d y := by
  simp only [List.mem_cons, List.not_mem_nil, or_false] at h
  rcases h with rfl | rfl | rfl | rfl
  · exact .lst _
  · exact .non
  · exact .str _
  · exact .mid [] .non [] trivial .non
theorem words_bad {n : Nat} {l : List D} {x d y : D} (hd : BadSum n d) (h : y ∈ [D.lst l, .tup (List.replicate 4 [x]).flatten, .tup [d], .non]) : BadWords n y := by
  simp only [List.mem_cons, List.not_mem_nil, or_false] at h
  rcases h with rfl | rfl | rfl | rfl
  · exact .lst _
  · exact .many _ (by simp)
  · exact .one _ hd
  · exact .non
theorem any_in {t : Str} {b : Bool} {G : Bool → Prop} (e : ((["if", "loop"] : List Str).any fun y => y == t) = b) (g : G b) : ∀ k : Bool, k = (["if", "loop"] : List Str).any (fun y => y == t) → G k := fun k z => by rw [z, e]; exact g
theorem bad_row_put {c : Int} {n deep : Nat} {b : Nat} {s : Sm} {O : Own} {R : D → Own → Prop} (ok : okR n (.put b s) deep) (n1 : 1 ≤ n) (n3 : n ≤ 3) (h : ∀ (d : D) (O' : Own) (q : Option Nat), O'.take O.length = O → DicQ O' q → BadRow q n deep d → R d O') :
    R_l_bad_row { nx := fun _ O' => R .non O', rt := R } (startD N_l_bad_row [.int c, encR (.put b s), .int n]) O := by
  have ht : O.take O.length = O := List.take_length
  obtain ⟨hb, hs⟩ := ok
  have s7 : R_l_bad_row_7 { nx := fun _ O' => R .non O', rt := R } [some (.int c), some (encR (.put b s)), some (.int (n : Nat)), some (.int (c % 6)), some (.lst [.str "put", .int (b : Nat), encS s]), none] O := by
    walk_at "w"
    refine strT ok_put ?_
    walk_at "w"
    refine ⟨(by decide : (0 : Int) < 6 ∧ (6 : Int) < 1073741824), ?_⟩
    refine ⟨c / 6, s, n, rfl, hs, n1, n3, fun d bd => ?_⟩
    exact h _ O none ht dicN (.putsum b d hb bd)
  have s6 : R_l_bad_row_6 { nx := fun _ O' => R .non O', rt := R } [some (.int c), some (encR (.put b s)), some (.int (n : Nat)), some (.int (c % 6)), some (.lst [.str "put", .int (b : Nat), encS s]), none] O := by
    walk_at "w"
    refine strT ok_put ?_
    walk_at "w"
    refine ifD (fun _ => ?_) (fun _ => seq_nx s7)
    walk_at "w"
    refine ⟨(by decide : (0 : Int) < 6 ∧ (6 : Int) < 1073741824), ?_⟩
    refine ⟨(by decide : (0 : Int) < 5), ?_⟩
    obtain ⟨y, hy, ey⟩ : ∃ y ∈ [D.int (-1), .int (n : Nat), .bl true, .non, .str "0"], atD [D.int (-1), .int (n : Nat), .bl true, .non, .str "0"] (c / 6 % 5) = some y := pickL _ 5 rfl (by decide) (c / 6)
    refine oKi ey ?_
    exact h _ O none ht dicN (.putbox y _ (box_bad hy))
  have s5 : R_l_bad_row_5 { nx := fun _ O' => R .non O', rt := R } [some (.int c), some (encR (.put b s)), some (.int (n : Nat)), some (.int (c % 6)), some (.lst [.str "put", .int (b : Nat), encS s]), none] O := by
    walk_at "w"
    refine ifD (fun _ => ?_) (fun _ => seq_nx s6)
    walk_at "w"
    refine ⟨(by decide : (0 : Int) < 6 ∧ (6 : Int) < 1073741824), ?_⟩
    refine ⟨(by decide : (0 : Int) < 8), ?_⟩
    obtain ⟨y, hy, ey⟩ : ∃ y ∈ [D.str "puts", .str "", .non, .bl true, .int 0, .lst [], .own O.length, .lst [.str "put"]], atD [D.str "puts", .str "", .non, .bl true, .int 0, .lst [], .own O.length, .lst [.str "put"]] (c / 6 % 8) = some y := pickL _ 8 rfl (by decide) (c / 6)
    refine oKi ey ?_
    refine ⟨(by decide : 1 + 2 ≤ 1000000), ?_⟩
    exact h (.tup [y, .int (b : Nat), encS s]) (O ++ [some (.dic [])]) (some O.length) top_take dicT (.tag3 _ _ _ (tag_bad ok_put hy))
  have s4 : R_l_bad_row_4 { nx := fun _ O' => R .non O', rt := R } [some (.int c), some (encR (.put b s)), some (.int (n : Nat)), some (.int (c % 6)), some (.lst [.str "put", .int (b : Nat), encS s]), none] O := by
    walk_at "w"
    refine ifD (fun _ => ?_) (fun _ => seq_nx s5)
    walk_at "w"
    refine ⟨by simp, ?_⟩
    exact h (.tup [.str "put", .int (b : Nat), encS s, .tup []]) O none ht dicN (.put4 _ _ _)
  have s3 : R_l_bad_row_3 { nx := fun _ O' => R .non O', rt := R } [some (.int c), some (encR (.put b s)), some (.int (n : Nat)), some (.int (c % 6)), some (.lst [.str "put", .int (b : Nat), encS s]), none] O := by
    walk_at "w"
    refine ifD (fun _ => ?_) (fun _ => seq_nx s4)
    exact h (.tup [.str "put", .int (b : Nat)]) O none ht dicN (.put2 _)
  have s2 : R_l_bad_row_2 { nx := fun _ O' => R .non O', rt := R } [some (.int c), some (encR (.put b s)), some (.int (n : Nat)), some (.int (c % 6)), some (.lst [.str "put", .int (b : Nat), encS s]), none] O := by
    walk_at "w"
    refine ifD (fun _ => ?_) (fun _ => seq_nx s3)
    exact h _ O none ht dicN (.lst _)
  refine ⟨(by decide : (0 : Int) < 6), ?_⟩
  exact s2
theorem bad_row_say {c : Int} {n deep : Nat} {s : Sm} {O : Own} {R : D → Own → Prop} (ok : okR n (.say s) deep) (n1 : 1 ≤ n) (n3 : n ≤ 3) (h : ∀ (d : D) (O' : Own) (q : Option Nat), O'.take O.length = O → DicQ O' q → BadRow q n deep d → R d O') :
    R_l_bad_row { nx := fun _ O' => R .non O', rt := R } (startD N_l_bad_row [.int c, encR (.say s), .int n]) O := by
  have ht : O.take O.length = O := List.take_length
  have s10 : R_l_bad_row_10 { nx := fun _ O' => R .non O', rt := R } [some (.int c), some (encR (.say s)), some (.int (n : Nat)), some (.int (c % 6)), some (.lst [.str "say", encS s]), none] O := by
    walk_at "w"
    refine ⟨(by decide : (0 : Int) < 6 ∧ (6 : Int) < 1073741824), ?_⟩
    refine ⟨c / 6, s, n, rfl, ok, n1, n3, fun d bd => ?_⟩
    refine ⟨(by decide : 2 + 0 ≤ 1000000), ?_⟩
    exact h (.tup [.str "say", d]) O none ht dicN (.saysum d bd)
  have s9 : R_l_bad_row_9 { nx := fun _ O' => R .non O', rt := R } [some (.int c), some (encR (.say s)), some (.int (n : Nat)), some (.int (c % 6)), some (.lst [.str "say", encS s]), none] O := by
    walk_at "w"
    refine any_in (t := "say") (b := false) (by decide +kernel) ?_
    exact seq_nx s10
  have s8 : R_l_bad_row_8 { nx := fun _ O' => R .non O', rt := R } [some (.int c), some (encR (.say s)), some (.int (n : Nat)), some (.int (c % 6)), some (.lst [.str "say", encS s]), none] O := by
    walk_at "w"
    refine strF (s := "say") ok_say ok_loop (by decide +kernel) ?_
    exact seq_nx s9
  have s7 : R_l_bad_row_7 { nx := fun _ O' => R .non O', rt := R } [some (.int c), some (encR (.say s)), some (.int (n : Nat)), some (.int (c % 6)), some (.lst [.str "say", encS s]), none] O := by
    walk_at "w"
    refine strF (s := "say") ok_say ok_put (by decide +kernel) ?_
    exact seq_nx s8
  have s6 : R_l_bad_row_6 { nx := fun _ O' => R .non O', rt := R } [some (.int c), some (encR (.say s)), some (.int (n : Nat)), some (.int (c % 6)), some (.lst [.str "say", encS s]), none] O := by
    walk_at "w"
    refine strF (s := "say") ok_say ok_put (by decide +kernel) ?_
    exact seq_nx s7
  have s5 : R_l_bad_row_5 { nx := fun _ O' => R .non O', rt := R } [some (.int c), some (encR (.say s)), some (.int (n : Nat)), some (.int (c % 6)), some (.lst [.str "say", encS s]), none] O := by
    walk_at "w"
    refine ifD (fun _ => ?_) (fun _ => seq_nx s6)
    walk_at "w"
    refine ⟨(by decide : (0 : Int) < 6 ∧ (6 : Int) < 1073741824), ?_⟩
    refine ⟨(by decide : (0 : Int) < 8), ?_⟩
    obtain ⟨y, hy, ey⟩ : ∃ y ∈ [D.str "puts", .str "", .non, .bl true, .int 0, .lst [], .own O.length, .lst [.str "say"]], atD [D.str "puts", .str "", .non, .bl true, .int 0, .lst [], .own O.length, .lst [.str "say"]] (c / 6 % 8) = some y := pickL _ 8 rfl (by decide) (c / 6)
    refine oKi ey ?_
    refine ⟨(by decide : 1 + 1 ≤ 1000000), ?_⟩
    exact h (.tup [y, encS s]) (O ++ [some (.dic [])]) (some O.length) top_take dicT (.tag2 _ _ (tag_bad ok_say hy))
  have s4 : R_l_bad_row_4 { nx := fun _ O' => R .non O', rt := R } [some (.int c), some (encR (.say s)), some (.int (n : Nat)), some (.int (c % 6)), some (.lst [.str "say", encS s]), none] O := by
    walk_at "w"
    refine ifD (fun _ => ?_) (fun _ => seq_nx s5)
    walk_at "w"
    refine ⟨by simp, ?_⟩
    exact h (.tup [.str "say", encS s, .tup []]) O none ht dicN (.say3 _ _)
  have s3 : R_l_bad_row_3 { nx := fun _ O' => R .non O', rt := R } [some (.int c), some (encR (.say s)), some (.int (n : Nat)), some (.int (c % 6)), some (.lst [.str "say", encS s]), none] O := by
    walk_at "w"
    refine ifD (fun _ => ?_) (fun _ => seq_nx s4)
    exact h (.tup [.str "say"]) O none ht dicN (.one _)
  have s2 : R_l_bad_row_2 { nx := fun _ O' => R .non O', rt := R } [some (.int c), some (encR (.say s)), some (.int (n : Nat)), some (.int (c % 6)), some (.lst [.str "say", encS s]), none] O := by
    walk_at "w"
    refine ifD (fun _ => ?_) (fun _ => seq_nx s3)
    exact h _ O none ht dicN (.lst _)
  refine ⟨(by decide : (0 : Int) < 6), ?_⟩
  exact s2
theorem bad_row_ite {c : Int} {n deep : Nat} {s : Sm} {a b : List Row} {O : Own} {R : D → Own → Prop} (ok : okR n (.ite s a b) deep) (n1 : 1 ≤ n) (n3 : n ≤ 3) (h : ∀ (d : D) (O' : Own) (q : Option Nat), O'.take O.length = O → DicQ O' q → BadRow q n deep d → R d O') :
    R_l_bad_row { nx := fun _ O' => R .non O', rt := R } (startD N_l_bad_row [.int c, encR (.ite s a b), .int n]) O := by
  have ht : O.take O.length = O := List.take_length
  obtain ⟨hd, hs, ha, hb⟩ := ok
  obtain ⟨e, rfl⟩ : ∃ e, deep = e + 1 := ⟨deep - 1, by omega⟩
  have s10 : R_l_bad_row_10 { nx := fun _ O' => R .non O', rt := R } [some (.int c), some (encR (.ite s a b)), some (.int (n : Nat)), some (.int (c % 6)), some (.lst [.str "if", encS s, .tup (encRs a), .tup (encRs b)]), none] O := by
    walk_at "w"
    refine ⟨(by decide : (0 : Int) < 6 ∧ (6 : Int) < 1073741824), ?_⟩
    refine ⟨c / 6, s, n, rfl, hs, n1, n3, fun d bd => ?_⟩
    refine ⟨(by decide : 2 + 2 ≤ 1000000), ?_⟩
    exact h (.tup [.str "if", d, .tup (encRs a), .tup (encRs b)]) O none ht dicN (.insum _ d _ _ (.inl rfl) bd)
  have s9 : R_l_bad_row_9 { nx := fun _ O' => R .non O', rt := R } [some (.int c), some (encR (.ite s a b)), some (.int (n : Nat)), some (.int (c % 6)), some (.lst [.str "if", encS s, .tup (encRs a), .tup (encRs b)]), none] O := by
    walk_at "w"
    refine any_in (t := "if") (b := true) (by decide +kernel) ?_
    walk_at "w"
    refine ⟨(by decide : (0 : Int) < 6 ∧ (6 : Int) < 1073741824), ?_⟩
    refine ⟨(by decide : (0 : Int) < 3), ?_⟩
    refine ifD (fun _ => ?_) (fun _ => seq_nx s10)
    walk_at "w"
    refine ⟨(by decide : (0 : Int) < 18 ∧ (18 : Int) < 1073741824), ?_⟩
    refine ⟨(by decide : (0 : Int) < 4), ?_⟩
    obtain ⟨y, hy, ey⟩ : ∃ y ∈ [D.lst (encRs b), .non, .str "", .tup [.non]], atD [D.lst (encRs b), .non, .str "", .tup [.non]] (c / 18 % 4) = some y := pickL _ 4 rfl (by decide) (c / 18)
    refine oKi ey ?_
    refine ⟨(by decide : 3 + 1 ≤ 1000000), ?_⟩
    exact h (.tup [.str "if", encS s, .tup (encRs a), y]) O none ht dicN (.if2 s a y hs ha (rows_bad hy))
  have s8 : R_l_bad_row_8 { nx := fun _ O' => R .non O', rt := R } [some (.int c), some (encR (.ite s a b)), some (.int (n : Nat)), some (.int (c % 6)), some (.lst [.str "if", encS s, .tup (encRs a), .tup (encRs b)]), none] O := by
    walk_at "w"
    refine strF (s := "if") ok_if ok_loop (by decide +kernel) ?_
    exact seq_nx s9
  have s7 : R_l_bad_row_7 { nx := fun _ O' => R .non O', rt := R } [some (.int c), some (encR (.ite s a b)), some (.int (n : Nat)), some (.int (c % 6)), some (.lst [.str "if", encS s, .tup (encRs a), .tup (encRs b)]), none] O := by
    walk_at "w"
    refine strF (s := "if") ok_if ok_put (by decide +kernel) ?_
    exact seq_nx s8
  have s6 : R_l_bad_row_6 { nx := fun _ O' => R .non O', rt := R } [some (.int c), some (encR (.ite s a b)), some (.int (n : Nat)), some (.int (c % 6)), some (.lst [.str "if", encS s, .tup (encRs a), .tup (encRs b)]), none] O := by
    walk_at "w"
    refine strF (s := "if") ok_if ok_put (by decide +kernel) ?_
    exact seq_nx s7
  have s5 : R_l_bad_row_5 { nx := fun _ O' => R .non O', rt := R } [some (.int c), some (encR (.ite s a b)), some (.int (n : Nat)), some (.int (c % 6)), some (.lst [.str "if", encS s, .tup (encRs a), .tup (encRs b)]), none] O := by
    walk_at "w"
    refine ifD (fun _ => ?_) (fun _ => seq_nx s6)
    walk_at "w"
    refine ⟨(by decide : (0 : Int) < 6 ∧ (6 : Int) < 1073741824), ?_⟩
    refine ⟨(by decide : (0 : Int) < 8), ?_⟩
    obtain ⟨y, hy, ey⟩ : ∃ y ∈ [D.str "puts", .str "", .non, .bl true, .int 0, .lst [], .own O.length, .lst [.str "if"]], atD [D.str "puts", .str "", .non, .bl true, .int 0, .lst [], .own O.length, .lst [.str "if"]] (c / 6 % 8) = some y := pickL _ 8 rfl (by decide) (c / 6)
    refine oKi ey ?_
    refine ⟨(by decide : 1 + 3 ≤ 1000000), ?_⟩
    exact h (.tup [y, encS s, .tup (encRs a), .tup (encRs b)]) (O ++ [some (.dic [])]) (some O.length) top_take dicT (.tag4 _ s _ _ (tag_bad ok_if hy) hs)
  have s4 : R_l_bad_row_4 { nx := fun _ O' => R .non O', rt := R } [some (.int c), some (encR (.ite s a b)), some (.int (n : Nat)), some (.int (c % 6)), some (.lst [.str "if", encS s, .tup (encRs a), .tup (encRs b)]), none] O := by
    walk_at "w"
    refine ifD (fun _ => ?_) (fun _ => seq_nx s5)
    walk_at "w"
    refine ⟨by simp, ?_⟩
    exact h (.tup [.str "if", encS s, .tup (encRs a), .tup (encRs b), .tup []]) O none ht dicN (.in5 _ _ _ _ _ (.inl rfl))
  have s3 : R_l_bad_row_3 { nx := fun _ O' => R .non O', rt := R } [some (.int c), some (encR (.ite s a b)), some (.int (n : Nat)), some (.int (c % 6)), some (.lst [.str "if", encS s, .tup (encRs a), .tup (encRs b)]), none] O := by
    walk_at "w"
    refine ifD (fun _ => ?_) (fun _ => seq_nx s4)
    exact h (.tup [.str "if", encS s, .tup (encRs a)]) O none ht dicN (.in3 _ _ _ (.inl rfl))
  have s2 : R_l_bad_row_2 { nx := fun _ O' => R .non O', rt := R } [some (.int c), some (encR (.ite s a b)), some (.int (n : Nat)), some (.int (c % 6)), some (.lst [.str "if", encS s, .tup (encRs a), .tup (encRs b)]), none] O := by
    walk_at "w"
    refine ifD (fun _ => ?_) (fun _ => seq_nx s3)
    exact h _ O none ht dicN (.lst _)
  refine ⟨(by decide : (0 : Int) < 6), ?_⟩
  exact s2
theorem bad_row_loop {c : Int} {n deep : Nat} {s : Sm} {ws : List Sm} {b : List Row} {O : Own} {R : D → Own → Prop} (ok : okR n (.loop s ws b) deep) (n1 : 1 ≤ n) (n3 : n ≤ 3) (h : ∀ (d : D) (O' : Own) (q : Option Nat), O'.take O.length = O → DicQ O' q → BadRow q n deep d → R d O') :
    R_l_bad_row { nx := fun _ O' => R .non O', rt := R } (startD N_l_bad_row [.int c, encR (.loop s ws b), .int n]) O := by
  have ht : O.take O.length = O := List.take_length
  obtain ⟨hd, hs, hw, hws, hb⟩ := ok
  obtain ⟨e, rfl⟩ : ∃ e, deep = e + 1 := ⟨deep - 1, by omega⟩
  have s10 : R_l_bad_row_10 { nx := fun _ O' => R .non O', rt := R } [some (.int c), some (encR (.loop s ws b)), some (.int (n : Nat)), some (.int (c % 6)), some (.lst [.str "loop", encS s, .tup (encSs ws), .tup (encRs b)]), none] O := by
    walk_at "w"
    refine ⟨(by decide : (0 : Int) < 6 ∧ (6 : Int) < 1073741824), ?_⟩
    refine ⟨c / 6, s, n, rfl, hs, n1, n3, fun d bd => ?_⟩
    refine ⟨(by decide : 2 + 2 ≤ 1000000), ?_⟩
    exact h (.tup [.str "loop", d, .tup (encSs ws), .tup (encRs b)]) O none ht dicN (.insum _ d _ _ (.inr rfl) bd)
  have s9 : R_l_bad_row_9 { nx := fun _ O' => R .non O', rt := R } [some (.int c), some (encR (.loop s ws b)), some (.int (n : Nat)), some (.int (c % 6)), some (.lst [.str "loop", encS s, .tup (encSs ws), .tup (encRs b)]), none] O := by
    walk_at "w"
    refine any_in (t := "loop") (b := true) (by decide +kernel) ?_
    walk_at "w"
    refine ⟨(by decide : (0 : Int) < 6 ∧ (6 : Int) < 1073741824), ?_⟩
    refine ⟨(by decide : (0 : Int) < 3), ?_⟩
    refine ifD (fun _ => ?_) (fun _ => seq_nx s10)
    walk_at "w"
    refine ⟨(by decide : (0 : Int) < 18 ∧ (18 : Int) < 1073741824), ?_⟩
    refine ⟨(by decide : (0 : Int) < 4), ?_⟩
    obtain ⟨y, hy, ey⟩ : ∃ y ∈ [D.lst (encRs b), .non, .str "", .tup [.non]], atD [D.lst (encRs b), .non, .str "", .tup [.non]] (c / 18 % 4) = some y := pickL _ 4 rfl (by decide) (c / 18)
    refine oKi ey ?_
    refine ⟨(by decide : 3 + 1 ≤ 1000000), ?_⟩
    exact h (.tup [.str "loop", encS s, .tup (encSs ws), y]) O none ht dicN (.loopb s ws y hs hw hws (rows_bad hy))
  have s8 : R_l_bad_row_8 { nx := fun _ O' => R .non O', rt := R } [some (.int c), some (encR (.loop s ws b)), some (.int (n : Nat)), some (.int (c % 6)), some (.lst [.str "loop", encS s, .tup (encSs ws), .tup (encRs b)]), none] O := by
    walk_at "w"
    refine strT ok_loop ?_
    walk_at "w"
    refine ifD (fun _ => ?_) (fun _ => seq_nx s9)
    walk_at "w"
    refine ⟨(by decide : (0 : Int) < 6 ∧ (6 : Int) < 1073741824), ?_⟩
    refine ⟨c / 6, s, n, rfl, hs, n1, n3, fun d bd => ?_⟩
    walk_at "w"
    refine mulT_tup (k := 4) (fun z => by cases z) (by decide) (by decide) (by simp) ?_
    walk_at "w"
    refine ⟨(by decide : (0 : Int) < 48 ∧ (48 : Int) < 1073741824), ?_⟩
    refine ⟨(by decide : (0 : Int) < 4), ?_⟩
    obtain ⟨y, hy, ey⟩ : ∃ y ∈ [D.lst (encSs ws), .tup (List.replicate 4 [encS s]).flatten, .tup [d], .non], atD [D.lst (encSs ws), .tup (List.replicate 4 [encS s]).flatten, .tup [d], .non] (c / 48 % 4) = some y := pickL _ 4 rfl (by decide) (c / 48)
    refine oKi ey ?_
    exact h _ O none ht dicN (.loopw s y _ hs (words_bad bd hy))
  have s7 : R_l_bad_row_7 { nx := fun _ O' => R .non O', rt := R } [some (.int c), some (encR (.loop s ws b)), some (.int (n : Nat)), some (.int (c % 6)), some (.lst [.str "loop", encS s, .tup (encSs ws), .tup (encRs b)]), none] O := by
    walk_at "w"
    refine strF (s := "loop") ok_loop ok_put (by decide +kernel) ?_
    exact seq_nx s8
  have s6 : R_l_bad_row_6 { nx := fun _ O' => R .non O', rt := R } [some (.int c), some (encR (.loop s ws b)), some (.int (n : Nat)), some (.int (c % 6)), some (.lst [.str "loop", encS s, .tup (encSs ws), .tup (encRs b)]), none] O := by
    walk_at "w"
    refine strF (s := "loop") ok_loop ok_put (by decide +kernel) ?_
    exact seq_nx s7
  have s5 : R_l_bad_row_5 { nx := fun _ O' => R .non O', rt := R } [some (.int c), some (encR (.loop s ws b)), some (.int (n : Nat)), some (.int (c % 6)), some (.lst [.str "loop", encS s, .tup (encSs ws), .tup (encRs b)]), none] O := by
    walk_at "w"
    refine ifD (fun _ => ?_) (fun _ => seq_nx s6)
    walk_at "w"
    refine ⟨(by decide : (0 : Int) < 6 ∧ (6 : Int) < 1073741824), ?_⟩
    refine ⟨(by decide : (0 : Int) < 8), ?_⟩
    obtain ⟨y, hy, ey⟩ : ∃ y ∈ [D.str "puts", .str "", .non, .bl true, .int 0, .lst [], .own O.length, .lst [.str "loop"]], atD [D.str "puts", .str "", .non, .bl true, .int 0, .lst [], .own O.length, .lst [.str "loop"]] (c / 6 % 8) = some y := pickL _ 8 rfl (by decide) (c / 6)
    refine oKi ey ?_
    refine ⟨(by decide : 1 + 3 ≤ 1000000), ?_⟩
    exact h (.tup [y, encS s, .tup (encSs ws), .tup (encRs b)]) (O ++ [some (.dic [])]) (some O.length) top_take dicT (.tag4 _ s _ _ (tag_bad ok_loop hy) hs)
  have s4 : R_l_bad_row_4 { nx := fun _ O' => R .non O', rt := R } [some (.int c), some (encR (.loop s ws b)), some (.int (n : Nat)), some (.int (c % 6)), some (.lst [.str "loop", encS s, .tup (encSs ws), .tup (encRs b)]), none] O := by
    walk_at "w"
    refine ifD (fun _ => ?_) (fun _ => seq_nx s5)
    walk_at "w"
    refine ⟨by simp, ?_⟩
    exact h (.tup [.str "loop", encS s, .tup (encSs ws), .tup (encRs b), .tup []]) O none ht dicN (.in5 _ _ _ _ _ (.inr rfl))
  have s3 : R_l_bad_row_3 { nx := fun _ O' => R .non O', rt := R } [some (.int c), some (encR (.loop s ws b)), some (.int (n : Nat)), some (.int (c % 6)), some (.lst [.str "loop", encS s, .tup (encSs ws), .tup (encRs b)]), none] O := by
    walk_at "w"
    refine ifD (fun _ => ?_) (fun _ => seq_nx s4)
    exact h (.tup [.str "loop", encS s, .tup (encSs ws)]) O none ht dicN (.in3 _ _ _ (.inr rfl))
  have s2 : R_l_bad_row_2 { nx := fun _ O' => R .non O', rt := R } [some (.int c), some (encR (.loop s ws b)), some (.int (n : Nat)), some (.int (c % 6)), some (.lst [.str "loop", encS s, .tup (encSs ws), .tup (encRs b)]), none] O := by
    walk_at "w"
    refine ifD (fun _ => ?_) (fun _ => seq_nx s3)
    exact h _ O none ht dicN (.lst _)
  refine ⟨(by decide : (0 : Int) < 6), ?_⟩
  exact s2
theorem sem_l_bad_row (ds : List D) (O : Own) (R : D → Own → Prop) (h : S_l_bad_row ds O R) : R_l_bad_row { nx := fun _ O' => R .non O', rt := R } (startD N_l_bad_row ds) O := by
  obtain ⟨c, r, n, deep, rfl, ok, n1, n3, h⟩ := h
  cases r with
  | put b s => exact bad_row_put ok n1 n3 h
  | say s => exact bad_row_say ok n1 n3 h
  | ite s a b => exact bad_row_ite ok n1 n3 h
  | loop s ws b => exact bad_row_loop ok n1 n3 h
end DL

/-! The law k02: what is no program. -/
namespace DL
open PySem L2
local macro_rules | `(tactic| walk_at "w") => `(tactic| conv => whnf)
mutual
theorem rowsR_P (rs0 : List Row) : ∀ (r : Row) (p : Pl), rowP rs0 p = some r → ∀ x ∈ rowsR p.list r, ∃ q : Pl, q.list = x.1 ∧ rowP rs0 q = some x.2
  | .put b s, p, h, x, hx => by
    rw [List.mem_singleton.mp hx]
    exact ⟨p, rfl, h⟩
  | .say s, p, h, x, hx => by
    rw [List.mem_singleton.mp hx]
    exact ⟨p, rfl, h⟩
  | .ite s a b, p, h, x, hx => by
    rcases List.mem_cons.mp hx with z | z
    · rw [z]; exact ⟨p, rfl, h⟩
    · rcases List.mem_append.mp z with z | z
      · exact rowsRs_P rs0 a (fun j => .sub p 0 j) (p.list ++ [0]) 0 (fun j => by show p.list ++ [0, j] = _; rw [List.append_assoc]; rfl) (fun j => by rw [Nat.zero_add]; exact rowP_of h rfl) x z
      · exact rowsRs_P rs0 b (fun j => .sub p 1 j) (p.list ++ [1]) 0 (fun j => by show p.list ++ [1, j] = _; rw [List.append_assoc]; rfl) (fun j => by rw [Nat.zero_add]; exact rowP_of h rfl) x z
  | .loop s ws b, p, h, x, hx => by
    rcases List.mem_cons.mp hx with z | z
    · rw [z]; exact ⟨p, rfl, h⟩
    · exact rowsRs_P rs0 b (fun j => .sub p 0 j) (p.list ++ [0]) 0 (fun j => by show p.list ++ [0, j] = _; rw [List.append_assoc]; rfl) (fun j => by rw [Nat.zero_add]; exact rowP_of h rfl) x z
theorem rowsRs_P (rs0 : List Row) : ∀ (rs : List Row) (mk : Nat → Pl) (ahead : List Nat) (k : Nat), (∀ j, (mk j).list = ahead ++ [j]) → (∀ j, rowP rs0 (mk (k + j)) = rs[j]?) → ∀ x ∈ rowsRs ahead k rs, ∃ q : Pl, q.list = x.1 ∧ rowP rs0 q = some x.2
  | [], _, _, _, _, _, x, hx => by cases hx
  | r :: rs, mk, ahead, k, hl, hr, x, hx => by
    rcases List.mem_append.mp hx with z | z
    · have h0 : rowP rs0 (mk k) = some r := hr 0
      rw [← hl k] at z
      exact rowsR_P rs0 r (mk k) h0 x z
    · exact rowsRs_P rs0 rs mk ahead (k + 1) hl (fun j => by rw [Nat.add_assoc, Nat.add_comm 1 j]; exact hr (j + 1)) x z
end
theorem rows_P {rs : List Row} : ∀ x ∈ rowsRs [] 0 rs, ∃ q : Pl, q.list = x.1 ∧ rowP rs q = some x.2 := rowsRs_P rs rs Pl.top [] 0 (fun j => rfl) fun j => by rw [Nat.zero_add]; rfl
/-! ### rows that are too many, or too deep -/
def zS (n : Nat) (m : Int) : Sm := (List.replicate n 0, m)
theorem zS_ok {n : Nat} {m : Int} (h1 : -99 ≤ m) (h2 : m ≤ 99) : SmW n (zS n m) := ⟨List.length_replicate, fun y hy => by rw [(List.mem_replicate.mp hy).2]; exact ⟨by decide, by decide⟩, h1, h2⟩
def deepR (n : Nat) : Nat → Row
  | 0 => .say (zS n 0)
  | j + 1 => .loop (zS n 1) [] [deepR n j]
theorem deep_bad (q : Option Nat) (n : Nat) : ∀ d, BadRow q n d (encR (deepR n (d + 1)))
  | 0 => .deep "loop" _ _ _ (.inr rfl)
  | d + 1 => .loopb (zS n 1) [] _ (zS_ok (by decide) (by decide)) (by decide) (fun _ z => by cases z) (.mid [] _ [] trivial (deep_bad q n d))
theorem mulT_zero {O : Own} {n : Nat} {R : D → Own → Prop} (h1 : 1 ≤ n) (h3 : n ≤ 3) (g : R (.tup (encI (List.replicate n 0))) O) : mulTD O (.tup [.int 0]) (.int (n : Nat)) R := by
  by_cases e : n = 1
  · subst e
    exact mulT_one g
  · refine mulT_tup (fun z => by cases z) (by omega) (by omega) (by simp) ?_
    rw [flat_zero]
    exact g
theorem top_bad {y : D} (h : y ∈ [D.int (-1), .int 10, .bl true, .str "1", .non, .int (10 ^ Int.toNat 20)]) : Among 0 9 y false := by
  simp only [List.mem_cons, List.not_mem_nil, or_false] at h
  rcases h with rfl | rfl | rfl | rfl | rfl | rfl
  · exact among_f (by decide)
  · exact among_f (by decide)
  · exact .no (.bl _)
  · exact .no (.str _)
  · exact .no .non
  · exact among_f (by decide +kernel)
theorem DicQ.ext {O O' : Own} {q : Option Nat} (h : DicQ O q) (t : O'.take O.length = O) : DicQ O' q := fun k e => by
  obtain ⟨gs, g⟩ := h k e
  have lt := (List.getElem?_eq_some_iff.mp g).1
  refine ⟨gs, ?_⟩
  rw [← t, List.getElem?_take_of_lt lt] at g
  exact g
theorem okRs_more {n d : Nat} {r : Row} (hr : okR n r d) : ∀ (k : Nat) {rs : List Row}, okRs n rs d → okRs n (rs ++ List.replicate k r) d
  | k, a :: rs, h => ⟨h.1, okRs_more hr k h.2⟩
  | 0, [], _ => trivial
  | k + 1, [], _ => ⟨hr, okRs_more hr k (rs := []) trivial⟩
theorem cnts_more (r : Row) (k : Nat) : ∀ rs : List Row, cnts (rs ++ List.replicate k r) = cnts rs + k * cntR r := by
  have h0 : ∀ k, cnts (List.replicate k r) = k * cntR r := fun k => by
    induction k with
    | zero => rw [Nat.zero_mul]; rfl
    | succ k ih => rw [List.replicate_succ]; show cntR r + cnts (List.replicate k r) = _; rw [ih, Nat.add_mul, Nat.one_mul, Nat.add_comm]
  intro rs
  rw [cnts_append, h0]
theorem flat_one (x : D) : ∀ k, (List.replicate k [x]).flatten = List.replicate k x
  | 0 => rfl
  | k + 1 => by rw [List.replicate_succ, List.replicate_succ, List.flatten_cons, flat_one x k]; rfl
theorem rows_more (r : Row) (k : Nat) (rs : List Row) : encRs rs ++ (List.replicate k [encR r]).flatten = encRs (rs ++ List.replicate k r) := by
  rw [flat_one, encRs_map, encRs_map, List.map_append, List.map_replicate]
def N_l_bad : List Str := ["_law_cell", "_law_tops_here", "_law_rows_here", "_law_many", "_law_deep", "_law_k", "_law_some", "_law_places_here", "_law_one"]
def R_l_bad : DS :=
  (dSeq (dAsg (dCall1 lenD (dCons (dVar 1) dNil)) (dgName 3))
  (dSeq (dAsg (dTup (dCons (dC (.str "say")) (dCons (dTup (dCons (dOp mulTD (dTup (dCons (dC (.int 0)) dNil)) (dVar 3)) (dCons (dC (.int 0)) dNil))) dNil))) (dgName 4))
  (dSeq (dFor (diR1 (dC (.int 4))) (dgName 5) (dAsg (dTup (dCons (dC (.str "loop")) (dCons (dTup (dCons (dOp mulTD (dTup (dCons (dC (.int 0)) dNil)) (dVar 3)) (dCons (dC (.int 1)) dNil))) (dCons (dTup dNil) (dCons (dTup (dCons (dVar 4) dNil)) dNil))))) (dgName 4)))
  (dSeq (dAsg (dFrz (dLst (dCons (dFrz (dLst (dCons (dCall1 tupleD (dCons (dVar 1) dNil)) (dCons (dVar 2) dNil)))) (dCons (dFrz (dLst (dCons (dFrz (dLst dNil)) (dCons (dTup dNil) dNil)))) (dCons (dFrz (dLst (dCons (dFrz (dLst (dCons (dC (.int 0)) (dCons (dC (.int 0)) (dCons (dC (.int 0)) (dCons (dC (.int 0)) dNil)))))) (dCons (dTup dNil) dNil)))) (dCons (dFrz (dLst (dCons (dVar 1) (dCons (dFrz (dList (dVar 2))) dNil)))) (dCons (dFrz (dLst (dCons (dC .non) (dCons (dVar 2) dNil)))) (dCons (dFrz (dLst (dCons (dVar 1) (dCons (dC .non) dNil)))) (dCons (dFrz (dLst (dCons (dVar 1) (dCons (dOp addD (dVar 2) (dTup (dCons (dVar 4) dNil))) dNil)))) (dCons (dFrz (dLst (dCons (dVar 1) (dCons (dOp addD (dVar 2) (dOp mulTD (dTup (dCons (dTup (dCons (dC (.str "say")) (dCons (dTup (dCons (dOp mulTD (dTup (dCons (dC (.int 0)) dNil)) (dVar 3)) (dCons (dC (.int 0)) dNil))) dNil))) dNil)) (dC (.int 13)))) dNil)))) (dCons (dFrz (dLst (dCons (dOp addD (dSl (dVar 1) dNoPart (dPart (negD (dC (.int 1))))) (dFrz (dLst (dCons (dOp ixD (dFrz (dLst (dCons (negD (dC (.int 1))) (dCons (dC (.int 10)) (dCons (dC (.bl true)) (dCons (dC (.str "1")) (dCons (dC .non) (dCons (dOp powD (dC (.int 10)) (dC (.int 20))) dNil)))))))) (dOp modD (dOp divD (dVar 0) (dC (.int 10))) (dC (.int 6)))) dNil)))) (dCons (dVar 2) dNil)))) dNil))))))))))) (dgName 6))
  (dSeq (dAsg (dCall (S_l_places 4) (dCons (dVar 2) (dCons (dTup dNil) dNil))) (dgName 7))
  (dSeq (dIfS (dAnd (dTest (dOp ltD (dOp modD (dVar 0) (dC (.int 10))) (dC (.int 3)))) (dTest (dOp neD (dVar 7) (dFrz (dLst dNil))))) (dSeq (dAsg (dOp ixD (dVar 7) (dOp modD (dOp divD (dVar 0) (dC (.int 10))) (dCall1 lenD (dCons (dVar 7) dNil)))) (dgName 8))
  (dRet (dFrz (dLst (dCons (dVar 1) (dCons (dCall (S_l_changed 4) (dCons (dVar 2) (dCons (dOp ixD (dVar 8) (dC (.int 0))) (dCons (dCall S_l_bad_row (dCons (dOp divD (dVar 0) (dC (.int 60))) (dCons (dOp ixD (dVar 8) (dC (.int 1))) (dCons (dVar 3) dNil)))) dNil)))) dNil)))))) dNext)
  (dRet (dOp ixD (dVar 6) (dOp modD (dOp divD (dVar 0) (dC (.int 60))) (dC (.int 9)))))))))))
def R_l_bad_2 : DS :=
  (dSeq (dFor (diR1 (dC (.int 4))) (dgName 5) (dAsg (dTup (dCons (dC (.str "loop")) (dCons (dTup (dCons (dOp mulTD (dTup (dCons (dC (.int 0)) dNil)) (dVar 3)) (dCons (dC (.int 1)) dNil))) (dCons (dTup dNil) (dCons (dTup (dCons (dVar 4) dNil)) dNil))))) (dgName 4)))
  (dSeq (dAsg (dFrz (dLst (dCons (dFrz (dLst (dCons (dCall1 tupleD (dCons (dVar 1) dNil)) (dCons (dVar 2) dNil)))) (dCons (dFrz (dLst (dCons (dFrz (dLst dNil)) (dCons (dTup dNil) dNil)))) (dCons (dFrz (dLst (dCons (dFrz (dLst (dCons (dC (.int 0)) (dCons (dC (.int 0)) (dCons (dC (.int 0)) (dCons (dC (.int 0)) dNil)))))) (dCons (dTup dNil) dNil)))) (dCons (dFrz (dLst (dCons (dVar 1) (dCons (dFrz (dList (dVar 2))) dNil)))) (dCons (dFrz (dLst (dCons (dC .non) (dCons (dVar 2) dNil)))) (dCons (dFrz (dLst (dCons (dVar 1) (dCons (dC .non) dNil)))) (dCons (dFrz (dLst (dCons (dVar 1) (dCons (dOp addD (dVar 2) (dTup (dCons (dVar 4) dNil))) dNil)))) (dCons (dFrz (dLst (dCons (dVar 1) (dCons (dOp addD (dVar 2) (dOp mulTD (dTup (dCons (dTup (dCons (dC (.str "say")) (dCons (dTup (dCons (dOp mulTD (dTup (dCons (dC (.int 0)) dNil)) (dVar 3)) (dCons (dC (.int 0)) dNil))) dNil))) dNil)) (dC (.int 13)))) dNil)))) (dCons (dFrz (dLst (dCons (dOp addD (dSl (dVar 1) dNoPart (dPart (negD (dC (.int 1))))) (dFrz (dLst (dCons (dOp ixD (dFrz (dLst (dCons (negD (dC (.int 1))) (dCons (dC (.int 10)) (dCons (dC (.bl true)) (dCons (dC (.str "1")) (dCons (dC .non) (dCons (dOp powD (dC (.int 10)) (dC (.int 20))) dNil)))))))) (dOp modD (dOp divD (dVar 0) (dC (.int 10))) (dC (.int 6)))) dNil)))) (dCons (dVar 2) dNil)))) dNil))))))))))) (dgName 6))
  (dSeq (dAsg (dCall (S_l_places 4) (dCons (dVar 2) (dCons (dTup dNil) dNil))) (dgName 7))
  (dSeq (dIfS (dAnd (dTest (dOp ltD (dOp modD (dVar 0) (dC (.int 10))) (dC (.int 3)))) (dTest (dOp neD (dVar 7) (dFrz (dLst dNil))))) (dSeq (dAsg (dOp ixD (dVar 7) (dOp modD (dOp divD (dVar 0) (dC (.int 10))) (dCall1 lenD (dCons (dVar 7) dNil)))) (dgName 8))
  (dRet (dFrz (dLst (dCons (dVar 1) (dCons (dCall (S_l_changed 4) (dCons (dVar 2) (dCons (dOp ixD (dVar 8) (dC (.int 0))) (dCons (dCall S_l_bad_row (dCons (dOp divD (dVar 0) (dC (.int 60))) (dCons (dOp ixD (dVar 8) (dC (.int 1))) (dCons (dVar 3) dNil)))) dNil)))) dNil)))))) dNext)
  (dRet (dOp ixD (dVar 6) (dOp modD (dOp divD (dVar 0) (dC (.int 60))) (dC (.int 9)))))))))
def R_l_bad_3 : DS :=
  (dSeq (dAsg (dFrz (dLst (dCons (dFrz (dLst (dCons (dCall1 tupleD (dCons (dVar 1) dNil)) (dCons (dVar 2) dNil)))) (dCons (dFrz (dLst (dCons (dFrz (dLst dNil)) (dCons (dTup dNil) dNil)))) (dCons (dFrz (dLst (dCons (dFrz (dLst (dCons (dC (.int 0)) (dCons (dC (.int 0)) (dCons (dC (.int 0)) (dCons (dC (.int 0)) dNil)))))) (dCons (dTup dNil) dNil)))) (dCons (dFrz (dLst (dCons (dVar 1) (dCons (dFrz (dList (dVar 2))) dNil)))) (dCons (dFrz (dLst (dCons (dC .non) (dCons (dVar 2) dNil)))) (dCons (dFrz (dLst (dCons (dVar 1) (dCons (dC .non) dNil)))) (dCons (dFrz (dLst (dCons (dVar 1) (dCons (dOp addD (dVar 2) (dTup (dCons (dVar 4) dNil))) dNil)))) (dCons (dFrz (dLst (dCons (dVar 1) (dCons (dOp addD (dVar 2) (dOp mulTD (dTup (dCons (dTup (dCons (dC (.str "say")) (dCons (dTup (dCons (dOp mulTD (dTup (dCons (dC (.int 0)) dNil)) (dVar 3)) (dCons (dC (.int 0)) dNil))) dNil))) dNil)) (dC (.int 13)))) dNil)))) (dCons (dFrz (dLst (dCons (dOp addD (dSl (dVar 1) dNoPart (dPart (negD (dC (.int 1))))) (dFrz (dLst (dCons (dOp ixD (dFrz (dLst (dCons (negD (dC (.int 1))) (dCons (dC (.int 10)) (dCons (dC (.bl true)) (dCons (dC (.str "1")) (dCons (dC .non) (dCons (dOp powD (dC (.int 10)) (dC (.int 20))) dNil)))))))) (dOp modD (dOp divD (dVar 0) (dC (.int 10))) (dC (.int 6)))) dNil)))) (dCons (dVar 2) dNil)))) dNil))))))))))) (dgName 6))
  (dSeq (dAsg (dCall (S_l_places 4) (dCons (dVar 2) (dCons (dTup dNil) dNil))) (dgName 7))
  (dSeq (dIfS (dAnd (dTest (dOp ltD (dOp modD (dVar 0) (dC (.int 10))) (dC (.int 3)))) (dTest (dOp neD (dVar 7) (dFrz (dLst dNil))))) (dSeq (dAsg (dOp ixD (dVar 7) (dOp modD (dOp divD (dVar 0) (dC (.int 10))) (dCall1 lenD (dCons (dVar 7) dNil)))) (dgName 8))
  (dRet (dFrz (dLst (dCons (dVar 1) (dCons (dCall (S_l_changed 4) (dCons (dVar 2) (dCons (dOp ixD (dVar 8) (dC (.int 0))) (dCons (dCall S_l_bad_row (dCons (dOp divD (dVar 0) (dC (.int 60))) (dCons (dOp ixD (dVar 8) (dC (.int 1))) (dCons (dVar 3) dNil)))) dNil)))) dNil)))))) dNext)
  (dRet (dOp ixD (dVar 6) (dOp modD (dOp divD (dVar 0) (dC (.int 60))) (dC (.int 9))))))))
def R_l_bad_4 : DS :=
  (dSeq (dAsg (dCall (S_l_places 4) (dCons (dVar 2) (dCons (dTup dNil) dNil))) (dgName 7))
  (dSeq (dIfS (dAnd (dTest (dOp ltD (dOp modD (dVar 0) (dC (.int 10))) (dC (.int 3)))) (dTest (dOp neD (dVar 7) (dFrz (dLst dNil))))) (dSeq (dAsg (dOp ixD (dVar 7) (dOp modD (dOp divD (dVar 0) (dC (.int 10))) (dCall1 lenD (dCons (dVar 7) dNil)))) (dgName 8))
  (dRet (dFrz (dLst (dCons (dVar 1) (dCons (dCall (S_l_changed 4) (dCons (dVar 2) (dCons (dOp ixD (dVar 8) (dC (.int 0))) (dCons (dCall S_l_bad_row (dCons (dOp divD (dVar 0) (dC (.int 60))) (dCons (dOp ixD (dVar 8) (dC (.int 1))) (dCons (dVar 3) dNil)))) dNil)))) dNil)))))) dNext)
  (dRet (dOp ixD (dVar 6) (dOp modD (dOp divD (dVar 0) (dC (.int 60))) (dC (.int 9)))))))
def R_l_bad_5 : DS :=
  (dSeq (dIfS (dAnd (dTest (dOp ltD (dOp modD (dVar 0) (dC (.int 10))) (dC (.int 3)))) (dTest (dOp neD (dVar 7) (dFrz (dLst dNil))))) (dSeq (dAsg (dOp ixD (dVar 7) (dOp modD (dOp divD (dVar 0) (dC (.int 10))) (dCall1 lenD (dCons (dVar 7) dNil)))) (dgName 8))
  (dRet (dFrz (dLst (dCons (dVar 1) (dCons (dCall (S_l_changed 4) (dCons (dVar 2) (dCons (dOp ixD (dVar 8) (dC (.int 0))) (dCons (dCall S_l_bad_row (dCons (dOp divD (dVar 0) (dC (.int 60))) (dCons (dOp ixD (dVar 8) (dC (.int 1))) (dCons (dVar 3) dNil)))) dNil)))) dNil)))))) dNext)
  (dRet (dOp ixD (dVar 6) (dOp modD (dOp divD (dVar 0) (dC (.int 60))) (dC (.int 9))))))
def R_l_bad_6 : DS :=
  (dRet (dOp ixD (dVar 6) (dOp modD (dOp divD (dVar 0) (dC (.int 60))) (dC (.int 9)))))
def S_l_bad : DSp := fun ds O R => ∃ (c : Int) (tp : List Nat) (rs : List Row), ds = [.int c, .lst (encN tp), .tup (encRs rs)] ∧ PrOk tp rs ∧ ∀ (d1 d2 : D) (O' : Own), O'.take O.length = O → BadPr O' d1 d2 → R (.lst [d1, d2]) O'
theorem len_l_bad (ds : List D) (O : Own) (R : D → Own → Prop) (h : S_l_bad ds O R) : ds.length = 3 := by obtain ⟨_, _, _, rfl, _⟩ := h; rfl
theorem py_PRs {n d : Nat} (hd : d ≤ 3) : ∀ l : List (List Nat × Row), (∀ x ∈ l, okR n x.2 d) → ∃ ps, PyAll 20 (encPRs l) ps ∧ ps.length = l.length
  | [], _ => ⟨[], .nil _, rfl⟩
  | x :: l, h => by
    obtain ⟨ps, a, b⟩ := py_PRs hd l fun y hy => h y (List.mem_cons_of_mem _ hy)
    refine ⟨_ :: ps, .cons (p := .tuple [pPc x.1, pR x.2]) ?_ a, by rw [List.length_cons, List.length_cons, b]⟩
    exact (Py.tup (n := 19) (.cons ((py_Pc x.1).mono (by decide)) (.cons ((py_R x.2 d (h x List.mem_cons_self)).mono (by omega)) (.nil _))))
theorem eqv_list_nil' (ps : List PyData) : PyData.eqv (.list ps) (.list []) = ps.isEmpty := by
  cases ps with
  | nil => rw [eqv_lst, eqvAll_nil]; rfl
  | cons a l => rw [eqv_lst, eqvAll_l]; rfl
mutual
theorem okR_mono {n : Nat} : ∀ {r : Row} {d e : Nat}, okR n r d → d ≤ e → okR n r e
  | .put _ _, _, _, h, _ => h
  | .say _, _, _, h, _ => h
  | .ite s a b, d, e, h, l => ⟨Nat.lt_of_lt_of_le h.1 l, h.2.1, okRs_mono h.2.2.1 (by omega), okRs_mono h.2.2.2 (by omega)⟩
  | .loop s ws b, d, e, h, l => ⟨Nat.lt_of_lt_of_le h.1 l, h.2.1, h.2.2.1, h.2.2.2.1, okRs_mono h.2.2.2.2 (by omega)⟩
theorem okRs_mono {n : Nat} : ∀ {rs : List Row} {d e : Nat}, okRs n rs d → d ≤ e → okRs n rs e
  | [], _, _, _, _ => trivial
  | r :: rs, d, e, h, l => ⟨okR_mono h.1 l, okRs_mono h.2 l⟩
end
def AllBad (O : Own) (L : List D) : Prop := L.length = 9 ∧ ∀ z ∈ L, ∃ d1 d2, z = D.lst [d1, d2] ∧ BadPr O d1 d2
theorem bad_six {c : Int} {L : List D} {O : Own} {R : D → Own → Prop} {c1 c2 c3 c4 c5 c7 c8 : Option D} (hL : AllBad O L) (h : ∀ (d1 d2 : D) (O' : Own), O'.take O.length = O → BadPr O' d1 d2 → R (.lst [d1, d2]) O') :
    R_l_bad_6 { nx := fun _ O' => R .non O', rt := R } [some (.int c), c1, c2, c3, c4, c5, some (.lst L), c7, c8] O := by
  obtain ⟨l9, all⟩ := hL
  walk_at "w"
  refine ⟨(by decide : (0 : Int) < 60 ∧ (60 : Int) < 1073741824), ?_⟩
  refine ⟨(by decide : (0 : Int) < 9), ?_⟩
  obtain ⟨y, hy, ey⟩ : ∃ y ∈ L, atD L (c / 60 % 9) = some y := pickL L 9 l9 (by decide) (c / 60)
  refine oKi ey ?_
  obtain ⟨d1, d2, rfl, bad⟩ := all y hy
  exact h d1 d2 O List.take_length bad
theorem bad_five {c : Int} {tp : List Nat} {rs : List Row} {L : List D} {O : Own} {R : D → Own → Prop} {c4 c5 : Option D} (ok : PrOk tp rs) (hL : AllBad O L) (h : ∀ (d1 d2 : D) (O' : Own), O'.take O.length = O → BadPr O' d1 d2 → R (.lst [d1, d2]) O') :
    R_l_bad_5 { nx := fun _ O' => R .non O', rt := R } [some (.int c), some (.lst (encN tp)), some (.tup (encRs rs)), some (.int (tp.length : Nat)), c4, c5, some (.lst L), some (.lst (encPRs (rowsRs [] 0 rs))), none] O := by
  have n3 := ok.top.few
  have n1 := ok.top.pos
  have six : R_l_bad_6 { nx := fun _ O' => R .non O', rt := R } [some (.int c), some (.lst (encN tp)), some (.tup (encRs rs)), some (.int (tp.length : Nat)), c4, c5, some (.lst L), some (.lst (encPRs (rowsRs [] 0 rs))), none] O := bad_six hL h
  have hP := rows_P (rs := rs)
  obtain ⟨ps, hps, lps⟩ := py_PRs (n := tp.length) (d := 3) (by decide) (rowsRs [] 0 rs) fun x hx => by
    obtain ⟨q, e1, e2⟩ := hP x hx
    exact okR_mono (rowP_ok ok.row q x.2 e2).2 (by omega)
  walk_at "w"
  refine ⟨(by decide : (0 : Int) < 10), ?_⟩
  refine ifD (fun _ => ?_) (fun _ => seq_nx six)
  walk_at "w"
  refine oKi ((Py.lst hps) O 40 (by decide)) (oKi ((Py.lst (.nil 0)) O 40 (by decide)) ?_)
  rw [eqv_list_nil']
  cases em : ps.isEmpty with
  | true => exact seq_nx six
  | false =>
    have lp : 0 < (rowsRs [] 0 rs).length := by
      rw [← lps]
      cases ps with
      | nil => cases em
      | cons a b => exact Nat.succ_pos _
    generalize rowsRs [] 0 rs = P at hP lp ⊢
    obtain ⟨a, ha, ea⟩ : ∃ a : Nat, a < P.length ∧ c / 10 % (P.length : Int) = (a : Int) := ⟨(c / 10 % (P.length : Int)).toNat, by have := Int.emod_lt_of_pos (c / 10) (show (0 : Int) < P.length by omega); have := Int.emod_nonneg (c / 10) (show (P.length : Int) ≠ 0 by omega); omega, by have := Int.emod_nonneg (c / 10) (show (P.length : Int) ≠ 0 by omega); omega⟩
    obtain ⟨q, e1, e2⟩ := hP P[a] (List.getElem_mem ha)
    have gx : P[a]? = some P[a] := List.getElem?_eq_getElem ha
    generalize P[a] = x at e1 e2 gx
    obtain ⟨pl, r⟩ := x
    have gd : (encPRs P)[a]? = some (encPR (pl, r)) := by unfold encPRs; rw [List.getElem?_map, gx]; rfl
    have okr := rowP_ok ok.row q r e2
    have e1' : q.list = pl := e1
    walk_at "w"
    refine ⟨(by decide : (0 : Int) < 10 ∧ (10 : Int) < 1073741824), ?_⟩
    walk_at "w"
    rw [encPRs_length]
    refine ⟨by omega, ?_⟩
    simp only [ea]
    refine oKi (atD_nat gd) ?_
    walk_at "w"
    refine ⟨(by decide : (0 : Int) < 60 ∧ (60 : Int) < 1073741824), ?_⟩
    refine ⟨c / 60, r, tp.length, 3 - q.dep, rfl, okr.2, n1, n3, fun d O1 qd t1 dq bd => ?_⟩
    have hr : rowAt rs q.fst q.more = some r := by rw [rowP_at]; exact e2
    refine ⟨rs, q.fst, q.more, d, tp.length, 3, r, qd, by rw [encPl_eq, e1']; rfl, ok.row, by have := ok.few; omega, by rw [more_len]; exact okr.1, by decide, hr, by rw [more_len]; exact bd, fun d' O2 t2 bds => ?_⟩
    have t3 : O2.take O.length = O := by
      have l := congrArg List.length t1
      rw [List.length_take] at l
      have e : O2.take O.length = (O2.take O1.length).take O.length := by rw [List.take_take, Nat.min_eq_left (by omega)]
      rw [e, t2]
      exact t1
    exact h (.lst (encN tp)) d' O2 t3 (.rows _ _ tp qd rfl ok.top (dq.ext t2) bds)
theorem bad_four {c : Int} {tp : List Nat} {rs : List Row} {L : List D} {O : Own} {R : D → Own → Prop} {c4 c5 : Option D} (ok : PrOk tp rs) (hL : AllBad O L) (h : ∀ (d1 d2 : D) (O' : Own), O'.take O.length = O → BadPr O' d1 d2 → R (.lst [d1, d2]) O') :
    R_l_bad_4 { nx := fun _ O' => R .non O', rt := R } [some (.int c), some (.lst (encN tp)), some (.tup (encRs rs)), some (.int (tp.length : Nat)), c4, c5, some (.lst L), none, none] O := by
  have cf := ok.few
  refine ⟨rs, tp.length, [], rfl, ok.row, by omega, by show 0 + 2 * 3 ≤ 500; omega, ?_⟩
  exact bad_five ok hL h
theorem bad_three {c : Int} {tp : List Nat} {rs : List Row} {O : Own} {R : D → Own → Prop} {c5 : Option D} (ok : PrOk tp rs) (h : ∀ (d1 d2 : D) (O' : Own), O'.take O.length = O → BadPr O' d1 d2 → R (.lst [d1, d2]) O') :
    R_l_bad_3 { nx := fun _ O' => R .non O', rt := R } [some (.int c), some (.lst (encN tp)), some (.tup (encRs rs)), some (.int (tp.length : Nat)), some (encR (deepR tp.length 4)), c5, none, none, none] O := by
  have n3 := ok.top.few
  have n1 := ok.top.pos
  have cf := ok.few
  have lr := len_le_cnts rs
  obtain ⟨j, hj⟩ : ∃ j, j + 1 = tp.length := ⟨tp.length - 1, by omega⟩
  have e1 : cutD (encN tp) none (some (-1)) = encN (tp.take j) := by
    refine (cut_neg (ds := encN tp) (k := 1) (j := j) (by rw [encN_length]; exact hj) (by decide)).trans ?_
    unfold encN
    rw [← List.map_take]
  obtain ⟨y, hy, ey⟩ : ∃ y ∈ [D.int (-1), .int 10, .bl true, .str "1", .non, .int (10 ^ Int.toNat 20)], atD [D.int (-1), .int 10, .bl true, .str "1", .non, .int (10 ^ Int.toNat 20)] (c / 10 % 6) = some y := pickL _ 6 rfl (by decide) (c / 10)
  have e2 : encRs rs ++ (List.replicate 13 [encR (.say (zS tp.length 0))]).flatten = encRs (rs ++ List.replicate 13 (.say (zS tp.length 0))) := rows_more _ 13 rs
  have zok : SmW tp.length (zS tp.length 0) := zS_ok (by decide) (by decide)
  have all : AllBad O [.lst [.tup (encN tp), .tup (encRs rs)], .lst [.lst [], .tup []], .lst [.lst [.int 0, .int 0, .int 0, .int 0], .tup []], .lst [.lst (encN tp), .lst (encRs rs)], .lst [.non, .tup (encRs rs)], .lst [.lst (encN tp), .non],
      .lst [.lst (encN tp), .tup (encRs rs ++ [encR (deepR tp.length 4)])], .lst [.lst (encN tp), .tup (encRs (rs ++ List.replicate 13 (.say (zS tp.length 0))))], .lst [.lst (encN (tp.take j) ++ [y]), .tup (encRs rs)]] := by
    refine ⟨rfl, fun z hz => ?_⟩
    simp only [List.mem_cons, List.not_mem_nil, or_false] at hz
    rcases hz with rfl | rfl | rfl | rfl | rfl | rfl | rfl | rfl | rfl
    · exact ⟨_, _, rfl, .tops _ _ (.tup _)⟩
    · exact ⟨_, _, rfl, .tops _ _ .nil⟩
    · exact ⟨_, _, rfl, .tops _ _ (.four _ (by decide))⟩
    · exact ⟨_, _, rfl, .rows _ _ tp none rfl ok.top dicN (.lst _)⟩
    · exact ⟨_, _, rfl, .tops _ _ .non⟩
    · exact ⟨_, _, rfl, .rows _ _ tp none rfl ok.top dicN .non⟩
    · exact ⟨_, _, rfl, .rows _ _ tp none rfl ok.top dicN (.mid rs _ [] ok.row (deep_bad none tp.length 3))⟩
    · exact ⟨_, _, rfl, .many _ tp _ rfl ok.top (okRs_more (r := .say (zS tp.length 0)) zok 13 ok.row) (by rw [cnts_more]; show 12 < cnts rs + 13 * 1; omega)⟩
    · exact ⟨_, _, rfl, .tops _ _ (.last (tp.take j) y (by rw [List.length_take]; omega) (fun t ht => ok.top.le t (List.mem_of_mem_take ht)) (top_bad hy))⟩
  have four := bad_four (c := c) (c4 := some (encR (deepR tp.length 4))) (c5 := c5) ok all h
  generalize eD : encR (deepR tp.length 4) = dp at four ⊢
  walk_at "w"
  refine ⟨by rw [encRs_length]; show _ + 1 ≤ _; omega, ?_⟩
  refine mulT_zero n1 n3 ?_
  refine mulT_tup (k := 13) (fun z => by cases z) (by decide) (by decide) (by simp) ?_
  walk_at "w"
  refine ⟨by rw [encRs_length]; show _ + 13 ≤ _; omega, ?_⟩
  walk_at "w"
  refine ⟨(by decide : (0 : Int) ≤ 20 ∧ (20 : Int) ≤ 1000 ∧ (10 : Int).natAbs < 1000), ?_⟩
  refine ⟨(by decide : (0 : Int) < 10 ∧ (10 : Int) < 1073741824), ?_⟩
  refine ⟨(by decide : (0 : Int) < 6), ?_⟩
  refine oKi ey ?_
  walk_at "w"
  rw [e1]
  refine ⟨by rw [encN_length, List.length_take]; show _ + 1 ≤ _; omega, ?_⟩
  have e3 : encRs rs ++ (List.replicate 13 [D.tup [.str "say", .tup [.tup (encI (List.replicate tp.length 0)), .int 0]]]).flatten = encRs (rs ++ List.replicate 13 (.say (zS tp.length 0))) := e2
  rw [e3]
  exact four
theorem sem_l_bad (ds : List D) (O : Own) (R : D → Own → Prop) (h : S_l_bad ds O R) : R_l_bad { nx := fun _ O' => R .non O', rt := R } (startD N_l_bad ds) O := by
  obtain ⟨c, tp, rs, rfl, ok, h⟩ := h
  have n3 := ok.top.few
  have n1 := ok.top.pos
  walk_at "w"
  rw [encN_length]
  refine mulT_zero n1 n3 ?_
  walk_at "w"
  refine ⟨(by decide : (-1000000000 : Int) ≤ 4 ∧ (4 : Int) ≤ 1000000000), ?_⟩
  refine forL_rng 4 (fun j δ O' => O' = O ∧ ∃ c5, δ = [some (.int c), some (.lst (encN tp)), some (.tup (encRs rs)), some (.int (tp.length : Nat)), some (encR (deepR tp.length j)), c5, none, none, none]) ⟨rfl, none, rfl⟩ (fun _ _ _ _ => trivial) ?_ ?_
  · rintro j δ O' nx hj ⟨rfl, c5, rfl⟩ hx
    refine mulT_zero n1 n3 ?_
    exact hx _ _ ⟨rfl, _, rfl⟩
  · rintro δ O' ⟨rfl, c5, rfl⟩
    exact bad_three ok h
end DL

/-! The law k02: what is refused; loops as a list of one's own; what is right. -/
namespace DL
open PySem L2
local macro_rules | `(tactic| walk_at "w") => `(tactic| conv => whnf)
def N_l_refused : List Str := ["_law_tops_here", "_law_rows_here", "e"]
def R_l_refused (cProgram : Addr) (cBadProgram : Addr) : DS :=
  (dSeq (dTry 2 [cBadProgram] (fun xw => dDrop (dMakeX cProgram (S_Program_initX cProgram cBadProgram) (dCons (dVar 0) (dCons (dVar 1) dNil)) xw)) fun _ => (fun a => (dSeq (dIfS (dOr (dTest (dIsE 2 a false)) (dTest (dIsE 2 a false))) (dRet (dC (.bl false))) dNext)
  (dRet (dAndV (dIsE 2 a true) (dIsE 2 a true))))))
  (dRet (dC (.bl false))))
def S_l_refused (C cB : Addr) : DSp := fun ds O R => ∃ (d1 d2 : D), ds = [d1, d2] ∧ BadPr O d1 d2 ∧ R (.bl true) O
theorem len_l_refused (C cB : Addr) (ds : List D) (O : Own) (R : D → Own → Prop) (h : S_l_refused C cB ds O R) : ds.length = 2 := by obtain ⟨_, _, rfl, _⟩ := h; rfl
theorem sem_l_refused (C cB : Addr) (ds : List D) (O : Own) (R : D → Own → Prop) (h : S_l_refused C cB ds O R) : R_l_refused C cB { nx := fun _ O' => Pure O R .non O', rt := Pure O R } (startD N_l_refused ds) O := by
  obtain ⟨d1, d2, rfl, bad, h⟩ := h
  refine ⟨O.length, d1, d2, rfl, bad.up, List.mem_singleton.mpr rfl, fun a => ?_⟩
  refine ⟨rfl, ?_⟩
  refine ⟨rfl, ?_⟩
  refine ⟨rfl, ?_⟩
  refine ⟨rfl, ?_⟩
  exact ⟨.bl true, top_take, .same (.bl _), h⟩
/-! ### loops, a list of one's own -/
def S_loops_inO : DSp := fun ds O R => ∃ (rs : List Row) (n : Nat) (ahead : List Nat), ds = [.tup (encRs rs), encPc ahead] ∧ okRs n rs 3 ∧ cnts rs ≤ 500 ∧ ahead.length + 2 * 3 ≤ 500 ∧ R (.own O.length) (O ++ [some (.lst (encPcs (loopsRs ahead 0 rs)))])
theorem len_loops_inO (ds : List D) (O : Own) (R : D → Own → Prop) (h : S_loops_inO ds O R) : ds.length = 2 := by obtain ⟨_, _, _, rfl, _⟩ := h; rfl
theorem sem_loops_inO (ds : List D) (O : Own) (R : D → Own → Prop) (h : S_loops_inO ds O R) : R_loops_in 3 { nx := fun _ O' => R .non O', rt := R } (startD N_loops_in ds) O := by
  obtain ⟨rs, nn, ahead, rfl, ok, hc, hah, h⟩ := h
  walk_at "w"
  rw [encRs_length]
  have hl := len_le_cnts rs
  refine ⟨by omega, ?_⟩
  rw [Int.toNat_natCast]
  refine forL_rng rs.length (fun j δ O' => O' = O ++ [some (.lst (encPcs (loopsRs ahead 0 (rs.take j))))] ∧ ∃ a3 a4 a5 a6, δ = [some (.tup (encRs rs)), some (encPc ahead), some (.own O.length), a3, a4, a5, a6]) ⟨rfl, _, _, _, _, rfl⟩ (fun _ _ _ _ => trivial) ?_ ?_
  · rintro j δ O' nx hj ⟨rfl, a3, a4, a5, a6, rfl⟩ hx
    have gj : rs[j]? = some rs[j] := List.getElem?_eq_getElem hj
    generalize er : rs[j] = r at gj
    have okr := okR_le gj ok
    have cg := cnts_get gj
    have lt := loopsRs_len (rs.take j) ahead 0
    have e1 : ahead.map (fun i : Nat => D.int (i : Int)) ++ [.int (j : Nat)] = (ahead ++ [j]).map (fun i : Nat => D.int (i : Int)) := by rw [List.map_append]; rfl
    have tk : rs.take (j + 1) = rs.take j ++ [r] := by rw [List.take_succ_eq_append_getElem hj, er]
    have fin : loopsRs ahead 0 (rs.take (j + 1)) = loopsRs ahead 0 (rs.take j) ++ loopsR (ahead ++ [j]) r := by
      rw [tk, loopsRs_append]
      show _ ++ (loopsR (ahead ++ [0 + (rs.take j).length]) r ++ []) = _
      rw [List.append_nil, List.length_take, Nat.min_eq_left (by omega), Nat.zero_add]
    obtain ⟨tl, et⟩ := encR_tup r
    walk_at "w"
    refine ⟨by simp; omega, ?_⟩
    rw [e1]
    walk_at "w"
    rw [atD_nat (encRs_get gj)]
    walk_at "w"
    rw [et]
    walk_at "w"
    refine strQ (tag_ok r) ok_loop (tag_loop r) ?_
    refine ifB (fun e => ?_) (fun e => ?_)
    · walk_at "w"
      rw [asL_top]
      walk_at "w"
      rw [top_get]
      walk_at "w"
      refine ⟨by unfold encPcs; rw [List.length_map]; omega, ?_⟩
      rw [top_set]
      have e2 : encPcs (loopsRs ahead 0 (rs.take j)) ++ [D.tup ((ahead ++ [j]).map fun i : Nat => D.int (i : Int))] = encPcs (loopsRs ahead 0 (rs.take j) ++ [ahead ++ [j]]) := by unfold encPcs; rw [List.map_append (l₁ := loopsRs ahead 0 (rs.take j))]; rfl
      rw [e2]
      refine loops_round (n := 3) gj okr (by rw [List.length_append]; show _ + 1 + _ ≤ _; omega) (by omega) hah fun b5 b6 => ?_
      refine hx _ _ ⟨?_, _, _, _, _, rfl⟩
      rw [fin, loopsR_eq, e, List.append_assoc]
      rfl
    · refine loops_round (n := 3) gj okr (by omega) (by omega) hah fun b5 b6 => ?_
      refine hx _ _ ⟨?_, _, _, _, _, rfl⟩
      rw [fin, loopsR_eq, e]
      rfl
  · rintro δ O' ⟨rfl, a3, a4, a5, a6, rfl⟩
    rw [List.take_of_length_le (Nat.le_refl _)]
    exact h
def N_Program_loopsO : List Str := ["self"]
def R_Program_loopsO (cProgram : Addr) : DS :=
  (dRet (dCall S_loops_inO (dCons (dFld cProgram (dVar 0) "rows") (dCons (dTup dNil) dNil))))
def S_Program_loopsO (C : Addr) : DSp := fun ds O R => ∃ (tp : List Nat) (rs : List Row), ds = [encPr C tp rs] ∧ PrOk tp rs ∧ R (.own O.length) (O ++ [some (.lst (encPcs (loopsRs [] 0 rs)))])
theorem len_Program_loopsO (C : Addr) (ds : List D) (O : Own) (R : D → Own → Prop) (h : S_Program_loopsO C ds O R) : ds.length = 1 := by obtain ⟨_, _, rfl, _⟩ := h; rfl
theorem sem_Program_loopsO (C : Addr) (ds : List D) (O : Own) (R : D → Own → Prop) (h : S_Program_loopsO C ds O R) : R_Program_loopsO C { nx := fun _ O' => R .non O', rt := R } (startD N_Program_loopsO ds) O := by
  obtain ⟨tp, rs, rfl, ok, h⟩ := h
  have fw := ok.few
  walk_at "w"
  refine ⟨rfl, ?_⟩
  walk_at "w"
  exact ⟨rs, tp.length, [], rfl, ok.row, by omega, by decide, h⟩
end DL

/-! The law k02: what is right of a program. -/
namespace DL
open PySem L2
local macro_rules | `(tactic| walk_at "w") => `(tactic| conv => whnf)
theorem lc_gen {α : Type} {tg : DTg} {tt : DT} {te : DE} {chk : Own → Prop} {δ : DSt} {R : List D → Own → Prop} {O : Own} (g : α → D) (b : α → Bool) (e : α → D) (s : α → DSt) (hc : chk O) : ∀ (l : List α) (acc : List D), (∀ a ∈ l, ∀ Q : DSt → Own → Prop, Q (s a) O → tg (g a) δ O Q) → (∀ a ∈ l, ∀ Q : Bool → Own → Prop, Q (b a) O → tt (s a) O Q) →
    (∀ a ∈ l, b a = true → ∀ Q : D → Own → Prop, Q (e a) O → te (s a) O Q) → acc.length + l.length ≤ 1000000 → R (acc ++ (l.filter b).map e) O → lcL tg tt te chk δ R (l.map g) acc O
  | [], acc, _, _, _, _, h => ⟨hc, by simpa using h⟩
  | a :: l, acc, hg, hb, he, hl, h => by
    rw [List.length_cons] at hl
    refine ⟨hc, hg a List.mem_cons_self _ ?_⟩
    refine hb a List.mem_cons_self _ ?_
    have ig : ∀ x ∈ l, ∀ Q : DSt → Own → Prop, Q (s x) O → tg (g x) δ O Q := fun x hx => hg x (List.mem_cons_of_mem _ hx)
    have ib : ∀ x ∈ l, ∀ Q : Bool → Own → Prop, Q (b x) O → tt (s x) O Q := fun x hx => hb x (List.mem_cons_of_mem _ hx)
    have ie : ∀ x ∈ l, b x = true → ∀ Q : D → Own → Prop, Q (e x) O → te (s x) O Q := fun x hx => he x (List.mem_cons_of_mem _ hx)
    cases q : b a with
    | true =>
      rw [if_pos rfl]
      refine he a List.mem_cons_self q _ ⟨by omega, lc_gen g b e s hc l (acc ++ [e a]) ig ib ie (by rw [List.length_append, List.length_singleton]; omega) ?_⟩
      rw [List.filter_cons_of_pos q, List.map_cons] at h
      rw [List.append_assoc]
      exact h
    | false =>
      rw [if_neg Bool.false_ne_true]
      rw [List.filter_cons_of_neg (by rw [q]; exact Bool.false_ne_true)] at h
      exact lc_gen g b e s hc l acc ig ib ie (by omega) h
mutual
theorem rowsR_loops : ∀ (r : Row) (pl : List Nat), ((rowsR pl r).filter fun x => isLoop x.2).map Prod.fst = loopsR pl r
  | .put _ _, _ => rfl
  | .say _, _ => rfl
  | .ite s a b, pl => by
    show ((rowsRs (pl ++ [0]) 0 a ++ rowsRs (pl ++ [1]) 0 b).filter fun x => isLoop x.2).map Prod.fst = loopsRs (pl ++ [0]) 0 a ++ loopsRs (pl ++ [1]) 0 b
    rw [List.filter_append, List.map_append, rowsRs_loops a, rowsRs_loops b]
  | .loop s ws b, pl => by
    show pl :: ((rowsRs (pl ++ [0]) 0 b).filter fun x => isLoop x.2).map Prod.fst = pl :: loopsRs (pl ++ [0]) 0 b
    rw [rowsRs_loops b]
theorem rowsRs_loops : ∀ (rs : List Row) (ahead : List Nat) (k : Nat), ((rowsRs ahead k rs).filter fun x => isLoop x.2).map Prod.fst = loopsRs ahead k rs
  | [], _, _ => rfl
  | r :: rs, ahead, k => by
    show ((rowsR (ahead ++ [k]) r ++ rowsRs ahead (k + 1) rs).filter fun x => isLoop x.2).map Prod.fst = loopsR (ahead ++ [k]) r ++ loopsRs ahead (k + 1) rs
    rw [List.filter_append, List.map_append, rowsR_loops r, rowsRs_loops rs]
end
theorem py_Pcs (l : List (List Nat)) : PyAll 2 (encPcs l) (l.map pPc) := PyAll.map _ _ l fun x _ => py_Pc x
def N_l_right : List Str := ["_law_program_here", "_law_tops_here", "_law_rows_here", "_law_kept", "_law_places_here", "_law_place", "_law_row_here", "_law_found", "_law_due"]
def R_l_right (cProgram : Addr) : DS :=
  (dSeq (dIfS (dOr (dNot (dTest (dIsi .lst (dFld cProgram (dVar 0) "tops")))) (dOr (dTest (dOp neD (dFld cProgram (dVar 0) "tops") (dVar 1))) (dTest (dOp neD (dFld cProgram (dVar 0) "rows") (dVar 2))))) (dRet (dC (.bl false))) dNext)
  (dSeq (dAsg (dCall (S_l_places 4) (dCons (dVar 2) (dCons (dTup dNil) dNil))) (dgName 4))
  (dSeq (dFor (diL (dVar 4)) (dgTup 2 (dgCons (dgName 5) (dgCons (dgName 6) dgNil))) (dIfS (dTest (dOp neD (dMeth cProgram "row" (S_Program_row cProgram) (dVar 0) (dCons (dVar 5) dNil)) (dVar 6))) (dRet (dC (.bl false))) dNext))
  (dSeq (dAsg (dMeth cProgram "loops" (S_Program_loopsO cProgram) (dVar 0) dNil) (dgName 7))
  (dSeq (dAsg (dFrz (dLc (diL (dVar 4)) (dgTup 2 (dgCons (dgName 5) (dgCons (dgName 6) dgNil))) (dTest (dOp eqD (dOp ixD (dVar 6) (dC (.int 0))) (dC (.str "loop")))) (dVar 5) [5, 6])) (dgName 8))
  (dSeq (dIfS (dOr (dNot (dTest (dIsi .lst (dVar 7)))) (dTest (dOp neD (dVar 7) (dVar 8)))) (dRet (dC (.bl false))) dNext)
  (dSeq (dDrop (dApp (dVar 7) (dTup dNil)))
  (dSeq (dDrop (dApp (dVar 3) (dTup (dCons (dVar 7) (dCons (dFrz (dList (dVar 7))) dNil)))))
  (dRet (dC (.bl true)))))))))))
def R_l_right_1 (cProgram : Addr) : DS :=
  (dSeq (dAsg (dCall (S_l_places 4) (dCons (dVar 2) (dCons (dTup dNil) dNil))) (dgName 4))
  (dSeq (dFor (diL (dVar 4)) (dgTup 2 (dgCons (dgName 5) (dgCons (dgName 6) dgNil))) (dIfS (dTest (dOp neD (dMeth cProgram "row" (S_Program_row cProgram) (dVar 0) (dCons (dVar 5) dNil)) (dVar 6))) (dRet (dC (.bl false))) dNext))
  (dSeq (dAsg (dMeth cProgram "loops" (S_Program_loopsO cProgram) (dVar 0) dNil) (dgName 7))
  (dSeq (dAsg (dFrz (dLc (diL (dVar 4)) (dgTup 2 (dgCons (dgName 5) (dgCons (dgName 6) dgNil))) (dTest (dOp eqD (dOp ixD (dVar 6) (dC (.int 0))) (dC (.str "loop")))) (dVar 5) [5, 6])) (dgName 8))
  (dSeq (dIfS (dOr (dNot (dTest (dIsi .lst (dVar 7)))) (dTest (dOp neD (dVar 7) (dVar 8)))) (dRet (dC (.bl false))) dNext)
  (dSeq (dDrop (dApp (dVar 7) (dTup dNil)))
  (dSeq (dDrop (dApp (dVar 3) (dTup (dCons (dVar 7) (dCons (dFrz (dList (dVar 7))) dNil)))))
  (dRet (dC (.bl true))))))))))
def R_l_right_2 (cProgram : Addr) : DS :=
  (dSeq (dFor (diL (dVar 4)) (dgTup 2 (dgCons (dgName 5) (dgCons (dgName 6) dgNil))) (dIfS (dTest (dOp neD (dMeth cProgram "row" (S_Program_row cProgram) (dVar 0) (dCons (dVar 5) dNil)) (dVar 6))) (dRet (dC (.bl false))) dNext))
  (dSeq (dAsg (dMeth cProgram "loops" (S_Program_loopsO cProgram) (dVar 0) dNil) (dgName 7))
  (dSeq (dAsg (dFrz (dLc (diL (dVar 4)) (dgTup 2 (dgCons (dgName 5) (dgCons (dgName 6) dgNil))) (dTest (dOp eqD (dOp ixD (dVar 6) (dC (.int 0))) (dC (.str "loop")))) (dVar 5) [5, 6])) (dgName 8))
  (dSeq (dIfS (dOr (dNot (dTest (dIsi .lst (dVar 7)))) (dTest (dOp neD (dVar 7) (dVar 8)))) (dRet (dC (.bl false))) dNext)
  (dSeq (dDrop (dApp (dVar 7) (dTup dNil)))
  (dSeq (dDrop (dApp (dVar 3) (dTup (dCons (dVar 7) (dCons (dFrz (dList (dVar 7))) dNil)))))
  (dRet (dC (.bl true)))))))))
def R_l_right_3 (cProgram : Addr) : DS :=
  (dSeq (dAsg (dMeth cProgram "loops" (S_Program_loopsO cProgram) (dVar 0) dNil) (dgName 7))
  (dSeq (dAsg (dFrz (dLc (diL (dVar 4)) (dgTup 2 (dgCons (dgName 5) (dgCons (dgName 6) dgNil))) (dTest (dOp eqD (dOp ixD (dVar 6) (dC (.int 0))) (dC (.str "loop")))) (dVar 5) [5, 6])) (dgName 8))
  (dSeq (dIfS (dOr (dNot (dTest (dIsi .lst (dVar 7)))) (dTest (dOp neD (dVar 7) (dVar 8)))) (dRet (dC (.bl false))) dNext)
  (dSeq (dDrop (dApp (dVar 7) (dTup dNil)))
  (dSeq (dDrop (dApp (dVar 3) (dTup (dCons (dVar 7) (dCons (dFrz (dList (dVar 7))) dNil)))))
  (dRet (dC (.bl true))))))))
def R_l_right_4 (cProgram : Addr) : DS :=
  (dSeq (dAsg (dFrz (dLc (diL (dVar 4)) (dgTup 2 (dgCons (dgName 5) (dgCons (dgName 6) dgNil))) (dTest (dOp eqD (dOp ixD (dVar 6) (dC (.int 0))) (dC (.str "loop")))) (dVar 5) [5, 6])) (dgName 8))
  (dSeq (dIfS (dOr (dNot (dTest (dIsi .lst (dVar 7)))) (dTest (dOp neD (dVar 7) (dVar 8)))) (dRet (dC (.bl false))) dNext)
  (dSeq (dDrop (dApp (dVar 7) (dTup dNil)))
  (dSeq (dDrop (dApp (dVar 3) (dTup (dCons (dVar 7) (dCons (dFrz (dList (dVar 7))) dNil)))))
  (dRet (dC (.bl true)))))))
def R_l_right_5 (cProgram : Addr) : DS :=
  (dSeq (dIfS (dOr (dNot (dTest (dIsi .lst (dVar 7)))) (dTest (dOp neD (dVar 7) (dVar 8)))) (dRet (dC (.bl false))) dNext)
  (dSeq (dDrop (dApp (dVar 7) (dTup dNil)))
  (dSeq (dDrop (dApp (dVar 3) (dTup (dCons (dVar 7) (dCons (dFrz (dList (dVar 7))) dNil)))))
  (dRet (dC (.bl true))))))
def R_l_right_6 (cProgram : Addr) : DS :=
  (dSeq (dDrop (dApp (dVar 7) (dTup dNil)))
  (dSeq (dDrop (dApp (dVar 3) (dTup (dCons (dVar 7) (dCons (dFrz (dList (dVar 7))) dNil)))))
  (dRet (dC (.bl true)))))
def R_l_right_7 (cProgram : Addr) : DS :=
  (dSeq (dDrop (dApp (dVar 3) (dTup (dCons (dVar 7) (dCons (dFrz (dList (dVar 7))) dNil)))))
  (dRet (dC (.bl true))))
def R_l_right_8 (cProgram : Addr) : DS :=
  (dRet (dC (.bl true)))
def S_l_right (C : Addr) : DSp := fun ds O R => ∃ (tp : List Nat) (rs : List Row) (hk : Nat) (items : List (Nat × List D)), ds = [encPr C tp rs, .lst (encN tp), .tup (encRs rs), .own hk] ∧ PrOk tp rs ∧ Kept O hk items ∧ items.length ≤ 1000 ∧ ∀ (O' : Own) (items' : List (Nat × List D)), Ext hk O O' → Kept O' hk items' → items'.length ≤ items.length + 1 → R (.bl true) O'
theorem len_l_right (C : Addr) (ds : List D) (O : Own) (R : D → Own → Prop) (h : S_l_right C ds O R) : ds.length = 4 := by obtain ⟨_, _, _, _, rfl, _⟩ := h; rfl
theorem right_six {C : Addr} {tp : List Nat} {rs : List Row} {hk : Nat} {items : List (Nat × List D)} {O : Own} {R : D → Own → Prop} {c4 c5 c6 c8 : Option D} (ok : PrOk tp rs) (K : Kept O hk items) (few : items.length ≤ 1000) (h : ∀ (O' : Own) (items' : List (Nat × List D)), Ext hk O O' → Kept O' hk items' → items'.length ≤ items.length + 1 → R (.bl true) O') :
    R_l_right_6 C { nx := fun _ O' => R .non O', rt := R } [some (encPr C tp rs), some (.lst (encN tp)), some (.tup (encRs rs)), some (.own hk), c4, c5, c6, some (.own O.length), c8] (O ++ [some (.lst (encPcs (loopsRs [] 0 rs)))]) := by
  have ll := loopsRs_len rs [] 0
  have cf := ok.few
  have lk := K.lt
  have hl : O.length < (O ++ [some (DO.lst (encPcs (loopsRs [] 0 rs)))]).length := by simp
  have nk : O.length ≠ hk := by omega
  have ni : ∀ x ∈ items, x.1 ≠ O.length := fun x hx z => by have := K.ltx x hx; omega
  have e1 : encPcs (loopsRs [] 0 rs) ++ [D.tup []] = encPcs (loopsRs [] 0 rs ++ [[]]) := by unfold encPcs; rw [List.map_append]; rfl
  have K2 : Kept (O ++ [some (DO.lst (encPcs (loopsRs [] 0 rs ++ [[]])))]) hk items := K.up
  walk_at "w"
  rw [asL_top]
  walk_at "w"
  rw [top_get]
  walk_at "w"
  refine ⟨by unfold encPcs; rw [List.length_map]; omega, ?_⟩
  rw [top_set, e1]
  walk_at "w"
  rw [asL_own K2.at_]
  walk_at "w"
  rw [asL_top]
  walk_at "w"
  rw [K2.at_]
  walk_at "w"
  refine ⟨by rw [List.length_map]; omega, ?_⟩
  refine h _ _ (Ext.trans Ext.up Ext.set) (K2.add nk top_get ⟨_, (py_Pcs _).mono (by decide)⟩) (by rw [List.length_append]; exact Nat.le_refl _)
theorem right_three {C : Addr} {tp : List Nat} {rs : List Row} {hk : Nat} {items : List (Nat × List D)} {O : Own} {R : D → Own → Prop} {c5 c6 : Option D} (ok : PrOk tp rs) (K : Kept O hk items) (few : items.length ≤ 1000) (h : ∀ (O' : Own) (items' : List (Nat × List D)), Ext hk O O' → Kept O' hk items' → items'.length ≤ items.length + 1 → R (.bl true) O') :
    R_l_right_3 C { nx := fun _ O' => R .non O', rt := R } [some (encPr C tp rs), some (.lst (encN tp)), some (.tup (encRs rs)), some (.own hk), some (.lst (encPRs (rowsRs [] 0 rs))), c5, c6, none, none] O := by
  have cf := ok.few
  have six := fun c8 => right_six (C := C) (c4 := some (.lst (encPRs (rowsRs [] 0 rs)))) (c5 := c5) (c6 := c6) (c8 := c8) ok K few h
  have lp := rowsRs_len rs [] 0
  have el : ((rowsRs [] 0 rs).filter fun x => isLoop x.2).map (fun x => encPc x.1) = encPcs (loopsRs [] 0 rs) := by
    rw [← rowsRs_loops rs [] 0]
    unfold encPcs
    rw [List.map_map]
    rfl
  generalize eOO : O ++ [some (DO.lst (encPcs (loopsRs [] 0 rs)))] = O2 at six
  have g2 : O2[O.length]? = some (some (.lst (encPcs (loopsRs [] 0 rs)))) := by rw [← eOO]; exact top_get
  refine ⟨rfl, rfl, ?_⟩
  refine ⟨tp, rs, rfl, ok, ?_⟩
  rw [eOO]
  have five : ∀ P, R_l_right_5 C { nx := fun _ O' => R .non O', rt := R } [some (encPr C tp rs), some (.lst (encN tp)), some (.tup (encRs rs)), some (.own hk), P, c5, c6, some (.own O.length), some (.lst (encPcs (loopsRs [] 0 rs)))] O2 → R_l_right_5 C { nx := fun _ O' => R .non O', rt := R } [some (encPr C tp rs), some (.lst (encN tp)), some (.tup (encRs rs)), some (.own hk), P, c5, c6, some (.own O.length), some (.lst (encPcs (loopsRs [] 0 rs)))] O2 := fun _ z => z
  have s5 : R_l_right_5 C { nx := fun _ O' => R .non O', rt := R } [some (encPr C tp rs), some (.lst (encN tp)), some (.tup (encRs rs)), some (.own hk), some (.lst (encPRs (rowsRs [] 0 rs))), c5, c6, some (.own O.length), some (.lst (encPcs (loopsRs [] 0 rs)))] O2 := by
    have s6 := six (some (.lst (encPcs (loopsRs [] 0 rs))))
    generalize encPRs (rowsRs [] 0 rs) = PL at s6 ⊢
    walk_at "w"
    rw [tyD_own g2]
    walk_at "w"
    refine oKi (py_own (n := 39) g2 (py_Pcs _ O2 39 (by decide))) (oKi ((Py.lst (py_Pcs _)) O2 40 (by decide)) ?_)
    rw [eqv_py (Py.lst (py_Pcs (loopsRs [] 0 rs)))]
    exact s6
  have lq : (rowsRs [] 0 rs).length ≤ 1000 := by omega
  have s5' : ∀ P : List (List Nat × Row), P = rowsRs [] 0 rs → R_l_right_5 C { nx := fun _ O' => R .non O', rt := R } [some (encPr C tp rs), some (.lst (encN tp)), some (.tup (encRs rs)), some (.own hk), some (.lst (encPRs P)), c5, c6, some (.own O.length), some (.lst ((P.filter fun x => isLoop x.2).map fun x => encPc x.1))] O2 := fun P e => by
    rw [e, el]
    exact s5
  obtain ⟨P, eP⟩ : ∃ P, P = rowsRs [] 0 rs := ⟨_, rfl⟩
  have s5'' := s5' P eP
  rw [← eP] at lq ⊢
  refine lc_gen (O := O2) (chk := fun O' => asL O' (.lst (encPRs P)) = some (encPRs P)) encPR (fun x => isLoop x.2) (fun x => encPc x.1) (fun x => [some (encPr C tp rs), some (.lst (encN tp)), some (.tup (encRs rs)), some (.own hk), some (.lst (encPRs P)), some (encPc x.1), some (encR x.2), some (.own O.length), none]) rfl P [] (fun x _ Q q => ?_) (fun x _ Q q => ?_) (fun x _ _ Q q => ?_) (by simp; omega) ?_
  · exact q
  · obtain ⟨tl, et⟩ := encR_tup x.2
    walk_at "w"
    rw [et]
    walk_at "w"
    refine strQ (tag_ok x.2) ok_loop (tag_loop x.2) ?_
    exact q
  · exact q
  exact s5''
theorem sem_l_right (C : Addr) (ds : List D) (O : Own) (R : D → Own → Prop) (h : S_l_right C ds O R) : R_l_right C { nx := fun _ O' => R .non O', rt := R } (startD N_l_right ds) O := by
  obtain ⟨tp, rs, hk, items, rfl, ok, K, few, h⟩ := h
  have cf := ok.few
  have lp := rowsRs_len rs [] 0
  have hP := rows_P (rs := rs)
  have three := fun c5 c6 => right_three (C := C) (c5 := c5) (c6 := c6) ok K few h
  have two : R_l_right_2 C { nx := fun _ O' => R .non O', rt := R } [some (encPr C tp rs), some (.lst (encN tp)), some (.tup (encRs rs)), some (.own hk), some (.lst (encPRs (rowsRs [] 0 rs))), none, none, none, none] O := by
    generalize rowsRs [] 0 rs = P at three hP ⊢
    refine forL_rngI encPR P (fun j δ O' => O' = O ∧ ∃ c5 c6, δ = [some (encPr C tp rs), some (.lst (encN tp)), some (.tup (encRs rs)), some (.own hk), some (.lst (encPRs P)), c5, c6, none, none]) ⟨rfl, none, none, rfl⟩ (fun _ _ _ _ => rfl) ?_ ?_
    · rintro j x δ O' nx hj gx ⟨rfl, c5, c6, rfl⟩ hx
      obtain ⟨q, e1, e2⟩ := hP x (List.mem_of_getElem? gx)
      have okr := rowP_ok ok.row q x.2 e2
      have next := hx [some (encPr C tp rs), some (.lst (encN tp)), some (.tup (encRs rs)), some (.own hk), some (.lst (encPRs P)), some (encPc x.1), some (encR x.2), none, none] O' ⟨rfl, _, _, rfl⟩
      walk_at "w"
      refine ⟨rfl, rfl, ?_⟩
      refine ⟨tp, rs, q.fst, q.more, x.2, by rw [encPl_eq, e1]; rfl, by rw [rowP_at]; exact e2, by rw [more_len]; exact okr.1, ?_⟩
      have py := py_R x.2 _ okr.2
      obtain ⟨tl, et⟩ := encR_tup x.2
      rw [et] at next py ⊢
      generalize (D.str (tagR x.2) :: tl) = ts at next py ⊢
      walk_at "w"
      refine oKi (py O' 40 (by omega)) (oKi (py O' 40 (by omega)) ?_)
      rw [eqv_py py]
      exact next
    · rintro δ O' ⟨rfl, c5, c6, rfl⟩
      exact three c5 c6
  have one : R_l_right_1 C { nx := fun _ O' => R .non O', rt := R } [some (encPr C tp rs), some (.lst (encN tp)), some (.tup (encRs rs)), some (.own hk), none, none, none, none, none] O :=
    ⟨rs, tp.length, [], rfl, ok.row, by omega, by decide, two⟩
  have pN : PyAll 1 (encN tp) (tp.map fun t : Nat => PyData.int (t : Nat)) := PyAll.map _ _ tp fun t _ => Py.int _
  refine ⟨rfl, ?_⟩
  walk_at "w"
  refine ⟨rfl, ?_⟩
  walk_at "w"
  refine oKi ((Py.lst pN) _ 40 (by decide)) (oKi ((Py.lst pN) _ 40 (by decide)) ?_)
  rw [eqv_py (Py.lst pN)]
  walk_at "w"
  refine ⟨rfl, ?_⟩
  walk_at "w"
  refine oKi (py_Rt ok.row) (oKi (py_Rt ok.row) ?_)
  rw [eqv_py (Py.tup (py_Rs rs 3 ok.row))]
  exact one
end DL

/-! The law k02. -/
namespace DL
open PySem L2
local macro_rules | `(tactic| walk_at "w") => `(tactic| conv => whnf)
def N_law02 : List Str := ["_law_script", "_law_tops_here", "_law_rows_here", "_law_cell", "_law_bad_here", "_law_say", "_law_handed", "_law_program_here", "_law_kept", "_law_filling", "_law_k", "_law_turn", "_law_wrong", "_law_due", "_law_found", "_law_held", "_law_pair"]
def R_law02 (cProgram : Addr) (cBadProgram : Addr) : DS :=
  (dSeq (dAsg (dCall S_l_program (dCons (dVar 0) (dCons (dC (.int 8)) dNil))) (dgTup 2 (dgCons (dgName 1) (dgCons (dgName 2) dgNil))))
  (dSeq (dAsg (dCall S_l_at (dCons (dVar 0) (dCons (dC (.int 50)) dNil))) (dgName 3))
  (dSeq (dIfS (dTest (dOp eqD (dOp modD (dVar 3) (dC (.int 2))) (dC (.int 1)))) (dSeq (dAsg (dCall S_l_bad (dCons (dOp divD (dVar 3) (dC (.int 2))) (dCons (dVar 1) (dCons (dVar 2) dNil)))) (dgName 4))
  (dRet (dCall (S_l_refused cProgram cBadProgram) (dCons (dOp ixD (dVar 4) (dC (.int 0))) (dCons (dOp ixD (dVar 4) (dC (.int 1))) dNil))))) dNext)
  (dSeq (dIfS (dTest (dOp eqD (dOp modD (dOp divD (dVar 3) (dC (.int 2))) (dC (.int 4))) (dC (.int 1)))) (dSeq (dAsg (dTup (dCons (dC (.str "say")) (dCons (dTup (dCons (dOp mulTD (dTup (dCons (dC (.int 0)) dNil)) (dCall1 lenD (dCons (dVar 1) dNil))) (dCons (dC (.int 0)) dNil))) dNil))) (dgName 5))
  (dSeq (dAsg (dOp addD (dVar 2) (dOp mulTD (dTup (dCons (dVar 5) dNil)) (dOp subD (dC (.int 12)) (dCall1 lenD (dCons (dCall (S_l_places 4) (dCons (dVar 2) (dCons (dTup dNil) dNil))) dNil))))) (dgName 2))
  (dIfS (dNot (dTest (dCall (S_l_refused cProgram cBadProgram) (dCons (dFrz (dList (dVar 1))) (dCons (dOp addD (dVar 2) (dTup (dCons (dVar 5) dNil))) dNil))))) (dRet (dC (.bl false))) dNext))) dNext)
  (dSeq (dAsg (dNew (dList (dVar 1))) (dgName 6))
  (dSeq (dAsg (dGive (dMake cProgram (S_Program_init cProgram) (dCons (dVar 6) (dCons (dVar 2) dNil)))) (dgName 7))
  (dSeq (dIfS (dTest (dOp neD (dVar 6) (dVar 1))) (dRet (dC (.bl false))) dNext)
  (dSeq (dDrop (dApp (dVar 6) (dC .non)))
  (dSeq (dAsg (dNew (dLst dNil)) (dgName 8))
  (dSeq (dAsg (dFrz (dLc (diR1 (dCall1 lenD (dCons (dVar 1) dNil))) (dgName 10) dYes (dOp subD (dOp modD (dCall S_l_at (dCons (dVar 0) (dCons (dOp addD (dC (.int 51)) (dVar 10)) dNil))) (dOp addD (dOp ixD (dVar 1) (dVar 10)) (dC (.int 3)))) (dC (.int 1))) [10])) (dgName 9))
  (dSeq (dFor (diR1 (dC (.int 2))) (dgName 11) (dSeq (dAsg (dFrz (dLc (diR1 (dCall1 lenD (dCons (dVar 1) dNil))) (dgName 10) (dNot (dTest (dChain leD leD (dC (.int 0)) (dOp ixD (dVar 9) (dVar 10)) (dOp ixD (dVar 1) (dVar 10))))) (dVar 10) [10])) (dgName 12))
  (dSeq (dAsg (dOp eqD (dVar 12) (dFrz (dLst dNil))) (dgName 13))
  (dSeq (dAsg (dCall (S_is_within cProgram) (dCons (dVar 7) (dCons (dVar 9) dNil))) (dgName 14))
  (dSeq (dIfS (dNot (dTest (dCall (S_l_right cProgram) (dCons (dVar 7) (dCons (dVar 1) (dCons (dVar 2) (dCons (dVar 8) dNil))))))) (dRet (dC (.bl false))) dNext)
  (dSeq (dIfS (dOr (dNot (dTest (dIsi .bl (dVar 14)))) (dTest (dOp neD (dVar 14) (dVar 13)))) (dRet (dC (.bl false))) dNext)
  (dAsg (dFrz (dLc (diL (dVar 9)) (dgName 15) dYes (dOp divD (dVar 15) (dC (.int 2))) [15])) (dgName 9))))))))
  (dRet (dOp eqD (dFrz (dLc (diL (dVar 8)) (dgName 16) (dTest (dOp neD (dOp ixD (dVar 16) (dC (.int 0))) (dOp ixD (dVar 16) (dC (.int 1))))) (dVar 16) [16])) (dFrz (dLst dNil)))))))))))))))
def R_law02_2 (cProgram : Addr) (cBadProgram : Addr) : DS :=
  (dSeq (dIfS (dTest (dOp eqD (dOp modD (dVar 3) (dC (.int 2))) (dC (.int 1)))) (dSeq (dAsg (dCall S_l_bad (dCons (dOp divD (dVar 3) (dC (.int 2))) (dCons (dVar 1) (dCons (dVar 2) dNil)))) (dgName 4))
  (dRet (dCall (S_l_refused cProgram cBadProgram) (dCons (dOp ixD (dVar 4) (dC (.int 0))) (dCons (dOp ixD (dVar 4) (dC (.int 1))) dNil))))) dNext)
  (dSeq (dIfS (dTest (dOp eqD (dOp modD (dOp divD (dVar 3) (dC (.int 2))) (dC (.int 4))) (dC (.int 1)))) (dSeq (dAsg (dTup (dCons (dC (.str "say")) (dCons (dTup (dCons (dOp mulTD (dTup (dCons (dC (.int 0)) dNil)) (dCall1 lenD (dCons (dVar 1) dNil))) (dCons (dC (.int 0)) dNil))) dNil))) (dgName 5))
  (dSeq (dAsg (dOp addD (dVar 2) (dOp mulTD (dTup (dCons (dVar 5) dNil)) (dOp subD (dC (.int 12)) (dCall1 lenD (dCons (dCall (S_l_places 4) (dCons (dVar 2) (dCons (dTup dNil) dNil))) dNil))))) (dgName 2))
  (dIfS (dNot (dTest (dCall (S_l_refused cProgram cBadProgram) (dCons (dFrz (dList (dVar 1))) (dCons (dOp addD (dVar 2) (dTup (dCons (dVar 5) dNil))) dNil))))) (dRet (dC (.bl false))) dNext))) dNext)
  (dSeq (dAsg (dNew (dList (dVar 1))) (dgName 6))
  (dSeq (dAsg (dGive (dMake cProgram (S_Program_init cProgram) (dCons (dVar 6) (dCons (dVar 2) dNil)))) (dgName 7))
  (dSeq (dIfS (dTest (dOp neD (dVar 6) (dVar 1))) (dRet (dC (.bl false))) dNext)
  (dSeq (dDrop (dApp (dVar 6) (dC .non)))
  (dSeq (dAsg (dNew (dLst dNil)) (dgName 8))
  (dSeq (dAsg (dFrz (dLc (diR1 (dCall1 lenD (dCons (dVar 1) dNil))) (dgName 10) dYes (dOp subD (dOp modD (dCall S_l_at (dCons (dVar 0) (dCons (dOp addD (dC (.int 51)) (dVar 10)) dNil))) (dOp addD (dOp ixD (dVar 1) (dVar 10)) (dC (.int 3)))) (dC (.int 1))) [10])) (dgName 9))
  (dSeq (dFor (diR1 (dC (.int 2))) (dgName 11) (dSeq (dAsg (dFrz (dLc (diR1 (dCall1 lenD (dCons (dVar 1) dNil))) (dgName 10) (dNot (dTest (dChain leD leD (dC (.int 0)) (dOp ixD (dVar 9) (dVar 10)) (dOp ixD (dVar 1) (dVar 10))))) (dVar 10) [10])) (dgName 12))
  (dSeq (dAsg (dOp eqD (dVar 12) (dFrz (dLst dNil))) (dgName 13))
  (dSeq (dAsg (dCall (S_is_within cProgram) (dCons (dVar 7) (dCons (dVar 9) dNil))) (dgName 14))
  (dSeq (dIfS (dNot (dTest (dCall (S_l_right cProgram) (dCons (dVar 7) (dCons (dVar 1) (dCons (dVar 2) (dCons (dVar 8) dNil))))))) (dRet (dC (.bl false))) dNext)
  (dSeq (dIfS (dOr (dNot (dTest (dIsi .bl (dVar 14)))) (dTest (dOp neD (dVar 14) (dVar 13)))) (dRet (dC (.bl false))) dNext)
  (dAsg (dFrz (dLc (diL (dVar 9)) (dgName 15) dYes (dOp divD (dVar 15) (dC (.int 2))) [15])) (dgName 9))))))))
  (dRet (dOp eqD (dFrz (dLc (diL (dVar 8)) (dgName 16) (dTest (dOp neD (dOp ixD (dVar 16) (dC (.int 0))) (dOp ixD (dVar 16) (dC (.int 1))))) (dVar 16) [16])) (dFrz (dLst dNil)))))))))))))
def R_law02_3 (cProgram : Addr) (cBadProgram : Addr) : DS :=
  (dSeq (dIfS (dTest (dOp eqD (dOp modD (dOp divD (dVar 3) (dC (.int 2))) (dC (.int 4))) (dC (.int 1)))) (dSeq (dAsg (dTup (dCons (dC (.str "say")) (dCons (dTup (dCons (dOp mulTD (dTup (dCons (dC (.int 0)) dNil)) (dCall1 lenD (dCons (dVar 1) dNil))) (dCons (dC (.int 0)) dNil))) dNil))) (dgName 5))
  (dSeq (dAsg (dOp addD (dVar 2) (dOp mulTD (dTup (dCons (dVar 5) dNil)) (dOp subD (dC (.int 12)) (dCall1 lenD (dCons (dCall (S_l_places 4) (dCons (dVar 2) (dCons (dTup dNil) dNil))) dNil))))) (dgName 2))
  (dIfS (dNot (dTest (dCall (S_l_refused cProgram cBadProgram) (dCons (dFrz (dList (dVar 1))) (dCons (dOp addD (dVar 2) (dTup (dCons (dVar 5) dNil))) dNil))))) (dRet (dC (.bl false))) dNext))) dNext)
  (dSeq (dAsg (dNew (dList (dVar 1))) (dgName 6))
  (dSeq (dAsg (dGive (dMake cProgram (S_Program_init cProgram) (dCons (dVar 6) (dCons (dVar 2) dNil)))) (dgName 7))
  (dSeq (dIfS (dTest (dOp neD (dVar 6) (dVar 1))) (dRet (dC (.bl false))) dNext)
  (dSeq (dDrop (dApp (dVar 6) (dC .non)))
  (dSeq (dAsg (dNew (dLst dNil)) (dgName 8))
  (dSeq (dAsg (dFrz (dLc (diR1 (dCall1 lenD (dCons (dVar 1) dNil))) (dgName 10) dYes (dOp subD (dOp modD (dCall S_l_at (dCons (dVar 0) (dCons (dOp addD (dC (.int 51)) (dVar 10)) dNil))) (dOp addD (dOp ixD (dVar 1) (dVar 10)) (dC (.int 3)))) (dC (.int 1))) [10])) (dgName 9))
  (dSeq (dFor (diR1 (dC (.int 2))) (dgName 11) (dSeq (dAsg (dFrz (dLc (diR1 (dCall1 lenD (dCons (dVar 1) dNil))) (dgName 10) (dNot (dTest (dChain leD leD (dC (.int 0)) (dOp ixD (dVar 9) (dVar 10)) (dOp ixD (dVar 1) (dVar 10))))) (dVar 10) [10])) (dgName 12))
  (dSeq (dAsg (dOp eqD (dVar 12) (dFrz (dLst dNil))) (dgName 13))
  (dSeq (dAsg (dCall (S_is_within cProgram) (dCons (dVar 7) (dCons (dVar 9) dNil))) (dgName 14))
  (dSeq (dIfS (dNot (dTest (dCall (S_l_right cProgram) (dCons (dVar 7) (dCons (dVar 1) (dCons (dVar 2) (dCons (dVar 8) dNil))))))) (dRet (dC (.bl false))) dNext)
  (dSeq (dIfS (dOr (dNot (dTest (dIsi .bl (dVar 14)))) (dTest (dOp neD (dVar 14) (dVar 13)))) (dRet (dC (.bl false))) dNext)
  (dAsg (dFrz (dLc (diL (dVar 9)) (dgName 15) dYes (dOp divD (dVar 15) (dC (.int 2))) [15])) (dgName 9))))))))
  (dRet (dOp eqD (dFrz (dLc (diL (dVar 8)) (dgName 16) (dTest (dOp neD (dOp ixD (dVar 16) (dC (.int 0))) (dOp ixD (dVar 16) (dC (.int 1))))) (dVar 16) [16])) (dFrz (dLst dNil))))))))))))
def R_law02_4 (cProgram : Addr) (cBadProgram : Addr) : DS :=
  (dSeq (dAsg (dNew (dList (dVar 1))) (dgName 6))
  (dSeq (dAsg (dGive (dMake cProgram (S_Program_init cProgram) (dCons (dVar 6) (dCons (dVar 2) dNil)))) (dgName 7))
  (dSeq (dIfS (dTest (dOp neD (dVar 6) (dVar 1))) (dRet (dC (.bl false))) dNext)
  (dSeq (dDrop (dApp (dVar 6) (dC .non)))
  (dSeq (dAsg (dNew (dLst dNil)) (dgName 8))
  (dSeq (dAsg (dFrz (dLc (diR1 (dCall1 lenD (dCons (dVar 1) dNil))) (dgName 10) dYes (dOp subD (dOp modD (dCall S_l_at (dCons (dVar 0) (dCons (dOp addD (dC (.int 51)) (dVar 10)) dNil))) (dOp addD (dOp ixD (dVar 1) (dVar 10)) (dC (.int 3)))) (dC (.int 1))) [10])) (dgName 9))
  (dSeq (dFor (diR1 (dC (.int 2))) (dgName 11) (dSeq (dAsg (dFrz (dLc (diR1 (dCall1 lenD (dCons (dVar 1) dNil))) (dgName 10) (dNot (dTest (dChain leD leD (dC (.int 0)) (dOp ixD (dVar 9) (dVar 10)) (dOp ixD (dVar 1) (dVar 10))))) (dVar 10) [10])) (dgName 12))
  (dSeq (dAsg (dOp eqD (dVar 12) (dFrz (dLst dNil))) (dgName 13))
  (dSeq (dAsg (dCall (S_is_within cProgram) (dCons (dVar 7) (dCons (dVar 9) dNil))) (dgName 14))
  (dSeq (dIfS (dNot (dTest (dCall (S_l_right cProgram) (dCons (dVar 7) (dCons (dVar 1) (dCons (dVar 2) (dCons (dVar 8) dNil))))))) (dRet (dC (.bl false))) dNext)
  (dSeq (dIfS (dOr (dNot (dTest (dIsi .bl (dVar 14)))) (dTest (dOp neD (dVar 14) (dVar 13)))) (dRet (dC (.bl false))) dNext)
  (dAsg (dFrz (dLc (diL (dVar 9)) (dgName 15) dYes (dOp divD (dVar 15) (dC (.int 2))) [15])) (dgName 9))))))))
  (dRet (dOp eqD (dFrz (dLc (diL (dVar 8)) (dgName 16) (dTest (dOp neD (dOp ixD (dVar 16) (dC (.int 0))) (dOp ixD (dVar 16) (dC (.int 1))))) (dVar 16) [16])) (dFrz (dLst dNil)))))))))))
def R_law02_6 (cProgram : Addr) (cBadProgram : Addr) : DS :=
  (dSeq (dIfS (dTest (dOp neD (dVar 6) (dVar 1))) (dRet (dC (.bl false))) dNext)
  (dSeq (dDrop (dApp (dVar 6) (dC .non)))
  (dSeq (dAsg (dNew (dLst dNil)) (dgName 8))
  (dSeq (dAsg (dFrz (dLc (diR1 (dCall1 lenD (dCons (dVar 1) dNil))) (dgName 10) dYes (dOp subD (dOp modD (dCall S_l_at (dCons (dVar 0) (dCons (dOp addD (dC (.int 51)) (dVar 10)) dNil))) (dOp addD (dOp ixD (dVar 1) (dVar 10)) (dC (.int 3)))) (dC (.int 1))) [10])) (dgName 9))
  (dSeq (dFor (diR1 (dC (.int 2))) (dgName 11) (dSeq (dAsg (dFrz (dLc (diR1 (dCall1 lenD (dCons (dVar 1) dNil))) (dgName 10) (dNot (dTest (dChain leD leD (dC (.int 0)) (dOp ixD (dVar 9) (dVar 10)) (dOp ixD (dVar 1) (dVar 10))))) (dVar 10) [10])) (dgName 12))
  (dSeq (dAsg (dOp eqD (dVar 12) (dFrz (dLst dNil))) (dgName 13))
  (dSeq (dAsg (dCall (S_is_within cProgram) (dCons (dVar 7) (dCons (dVar 9) dNil))) (dgName 14))
  (dSeq (dIfS (dNot (dTest (dCall (S_l_right cProgram) (dCons (dVar 7) (dCons (dVar 1) (dCons (dVar 2) (dCons (dVar 8) dNil))))))) (dRet (dC (.bl false))) dNext)
  (dSeq (dIfS (dOr (dNot (dTest (dIsi .bl (dVar 14)))) (dTest (dOp neD (dVar 14) (dVar 13)))) (dRet (dC (.bl false))) dNext)
  (dAsg (dFrz (dLc (diL (dVar 9)) (dgName 15) dYes (dOp divD (dVar 15) (dC (.int 2))) [15])) (dgName 9))))))))
  (dRet (dOp eqD (dFrz (dLc (diL (dVar 8)) (dgName 16) (dTest (dOp neD (dOp ixD (dVar 16) (dC (.int 0))) (dOp ixD (dVar 16) (dC (.int 1))))) (dVar 16) [16])) (dFrz (dLst dNil)))))))))
def R_law02_7 (cProgram : Addr) (cBadProgram : Addr) : DS :=
  (dSeq (dDrop (dApp (dVar 6) (dC .non)))
  (dSeq (dAsg (dNew (dLst dNil)) (dgName 8))
  (dSeq (dAsg (dFrz (dLc (diR1 (dCall1 lenD (dCons (dVar 1) dNil))) (dgName 10) dYes (dOp subD (dOp modD (dCall S_l_at (dCons (dVar 0) (dCons (dOp addD (dC (.int 51)) (dVar 10)) dNil))) (dOp addD (dOp ixD (dVar 1) (dVar 10)) (dC (.int 3)))) (dC (.int 1))) [10])) (dgName 9))
  (dSeq (dFor (diR1 (dC (.int 2))) (dgName 11) (dSeq (dAsg (dFrz (dLc (diR1 (dCall1 lenD (dCons (dVar 1) dNil))) (dgName 10) (dNot (dTest (dChain leD leD (dC (.int 0)) (dOp ixD (dVar 9) (dVar 10)) (dOp ixD (dVar 1) (dVar 10))))) (dVar 10) [10])) (dgName 12))
  (dSeq (dAsg (dOp eqD (dVar 12) (dFrz (dLst dNil))) (dgName 13))
  (dSeq (dAsg (dCall (S_is_within cProgram) (dCons (dVar 7) (dCons (dVar 9) dNil))) (dgName 14))
  (dSeq (dIfS (dNot (dTest (dCall (S_l_right cProgram) (dCons (dVar 7) (dCons (dVar 1) (dCons (dVar 2) (dCons (dVar 8) dNil))))))) (dRet (dC (.bl false))) dNext)
  (dSeq (dIfS (dOr (dNot (dTest (dIsi .bl (dVar 14)))) (dTest (dOp neD (dVar 14) (dVar 13)))) (dRet (dC (.bl false))) dNext)
  (dAsg (dFrz (dLc (diL (dVar 9)) (dgName 15) dYes (dOp divD (dVar 15) (dC (.int 2))) [15])) (dgName 9))))))))
  (dRet (dOp eqD (dFrz (dLc (diL (dVar 8)) (dgName 16) (dTest (dOp neD (dOp ixD (dVar 16) (dC (.int 0))) (dOp ixD (dVar 16) (dC (.int 1))))) (dVar 16) [16])) (dFrz (dLst dNil))))))))
def R_law02_8 (cProgram : Addr) (cBadProgram : Addr) : DS :=
  (dSeq (dAsg (dNew (dLst dNil)) (dgName 8))
  (dSeq (dAsg (dFrz (dLc (diR1 (dCall1 lenD (dCons (dVar 1) dNil))) (dgName 10) dYes (dOp subD (dOp modD (dCall S_l_at (dCons (dVar 0) (dCons (dOp addD (dC (.int 51)) (dVar 10)) dNil))) (dOp addD (dOp ixD (dVar 1) (dVar 10)) (dC (.int 3)))) (dC (.int 1))) [10])) (dgName 9))
  (dSeq (dFor (diR1 (dC (.int 2))) (dgName 11) (dSeq (dAsg (dFrz (dLc (diR1 (dCall1 lenD (dCons (dVar 1) dNil))) (dgName 10) (dNot (dTest (dChain leD leD (dC (.int 0)) (dOp ixD (dVar 9) (dVar 10)) (dOp ixD (dVar 1) (dVar 10))))) (dVar 10) [10])) (dgName 12))
  (dSeq (dAsg (dOp eqD (dVar 12) (dFrz (dLst dNil))) (dgName 13))
  (dSeq (dAsg (dCall (S_is_within cProgram) (dCons (dVar 7) (dCons (dVar 9) dNil))) (dgName 14))
  (dSeq (dIfS (dNot (dTest (dCall (S_l_right cProgram) (dCons (dVar 7) (dCons (dVar 1) (dCons (dVar 2) (dCons (dVar 8) dNil))))))) (dRet (dC (.bl false))) dNext)
  (dSeq (dIfS (dOr (dNot (dTest (dIsi .bl (dVar 14)))) (dTest (dOp neD (dVar 14) (dVar 13)))) (dRet (dC (.bl false))) dNext)
  (dAsg (dFrz (dLc (diL (dVar 9)) (dgName 15) dYes (dOp divD (dVar 15) (dC (.int 2))) [15])) (dgName 9))))))))
  (dRet (dOp eqD (dFrz (dLc (diL (dVar 8)) (dgName 16) (dTest (dOp neD (dOp ixD (dVar 16) (dC (.int 0))) (dOp ixD (dVar 16) (dC (.int 1))))) (dVar 16) [16])) (dFrz (dLst dNil)))))))
def R_law02_9 (cProgram : Addr) (cBadProgram : Addr) : DS :=
  (dSeq (dAsg (dFrz (dLc (diR1 (dCall1 lenD (dCons (dVar 1) dNil))) (dgName 10) dYes (dOp subD (dOp modD (dCall S_l_at (dCons (dVar 0) (dCons (dOp addD (dC (.int 51)) (dVar 10)) dNil))) (dOp addD (dOp ixD (dVar 1) (dVar 10)) (dC (.int 3)))) (dC (.int 1))) [10])) (dgName 9))
  (dSeq (dFor (diR1 (dC (.int 2))) (dgName 11) (dSeq (dAsg (dFrz (dLc (diR1 (dCall1 lenD (dCons (dVar 1) dNil))) (dgName 10) (dNot (dTest (dChain leD leD (dC (.int 0)) (dOp ixD (dVar 9) (dVar 10)) (dOp ixD (dVar 1) (dVar 10))))) (dVar 10) [10])) (dgName 12))
  (dSeq (dAsg (dOp eqD (dVar 12) (dFrz (dLst dNil))) (dgName 13))
  (dSeq (dAsg (dCall (S_is_within cProgram) (dCons (dVar 7) (dCons (dVar 9) dNil))) (dgName 14))
  (dSeq (dIfS (dNot (dTest (dCall (S_l_right cProgram) (dCons (dVar 7) (dCons (dVar 1) (dCons (dVar 2) (dCons (dVar 8) dNil))))))) (dRet (dC (.bl false))) dNext)
  (dSeq (dIfS (dOr (dNot (dTest (dIsi .bl (dVar 14)))) (dTest (dOp neD (dVar 14) (dVar 13)))) (dRet (dC (.bl false))) dNext)
  (dAsg (dFrz (dLc (diL (dVar 9)) (dgName 15) dYes (dOp divD (dVar 15) (dC (.int 2))) [15])) (dgName 9))))))))
  (dRet (dOp eqD (dFrz (dLc (diL (dVar 8)) (dgName 16) (dTest (dOp neD (dOp ixD (dVar 16) (dC (.int 0))) (dOp ixD (dVar 16) (dC (.int 1))))) (dVar 16) [16])) (dFrz (dLst dNil))))))
def R_law02_10 (cProgram : Addr) (cBadProgram : Addr) : DS :=
  (dSeq (dFor (diR1 (dC (.int 2))) (dgName 11) (dSeq (dAsg (dFrz (dLc (diR1 (dCall1 lenD (dCons (dVar 1) dNil))) (dgName 10) (dNot (dTest (dChain leD leD (dC (.int 0)) (dOp ixD (dVar 9) (dVar 10)) (dOp ixD (dVar 1) (dVar 10))))) (dVar 10) [10])) (dgName 12))
  (dSeq (dAsg (dOp eqD (dVar 12) (dFrz (dLst dNil))) (dgName 13))
  (dSeq (dAsg (dCall (S_is_within cProgram) (dCons (dVar 7) (dCons (dVar 9) dNil))) (dgName 14))
  (dSeq (dIfS (dNot (dTest (dCall (S_l_right cProgram) (dCons (dVar 7) (dCons (dVar 1) (dCons (dVar 2) (dCons (dVar 8) dNil))))))) (dRet (dC (.bl false))) dNext)
  (dSeq (dIfS (dOr (dNot (dTest (dIsi .bl (dVar 14)))) (dTest (dOp neD (dVar 14) (dVar 13)))) (dRet (dC (.bl false))) dNext)
  (dAsg (dFrz (dLc (diL (dVar 9)) (dgName 15) dYes (dOp divD (dVar 15) (dC (.int 2))) [15])) (dgName 9))))))))
  (dRet (dOp eqD (dFrz (dLc (diL (dVar 8)) (dgName 16) (dTest (dOp neD (dOp ixD (dVar 16) (dC (.int 0))) (dOp ixD (dVar 16) (dC (.int 1))))) (dVar 16) [16])) (dFrz (dLst dNil)))))
def R_law02_11 (cProgram : Addr) (cBadProgram : Addr) : DS :=
  (dRet (dOp eqD (dFrz (dLc (diL (dVar 8)) (dgName 16) (dTest (dOp neD (dOp ixD (dVar 16) (dC (.int 0))) (dOp ixD (dVar 16) (dC (.int 1))))) (dVar 16) [16])) (dFrz (dLst dNil))))
def R_law_b10 (cProgram : Addr) (cBadProgram : Addr) : DS :=
  (dSeq (dAsg (dFrz (dLc (diR1 (dCall1 lenD (dCons (dVar 1) dNil))) (dgName 10) (dNot (dTest (dChain leD leD (dC (.int 0)) (dOp ixD (dVar 9) (dVar 10)) (dOp ixD (dVar 1) (dVar 10))))) (dVar 10) [10])) (dgName 12))
  (dSeq (dAsg (dOp eqD (dVar 12) (dFrz (dLst dNil))) (dgName 13))
  (dSeq (dAsg (dCall (S_is_within cProgram) (dCons (dVar 7) (dCons (dVar 9) dNil))) (dgName 14))
  (dSeq (dIfS (dNot (dTest (dCall (S_l_right cProgram) (dCons (dVar 7) (dCons (dVar 1) (dCons (dVar 2) (dCons (dVar 8) dNil))))))) (dRet (dC (.bl false))) dNext)
  (dSeq (dIfS (dOr (dNot (dTest (dIsi .bl (dVar 14)))) (dTest (dOp neD (dVar 14) (dVar 13)))) (dRet (dC (.bl false))) dNext)
  (dAsg (dFrz (dLc (diL (dVar 9)) (dgName 15) dYes (dOp divD (dVar 15) (dC (.int 2))) [15])) (dgName 9)))))))
def R_law_b10_s1 (cProgram : Addr) (cBadProgram : Addr) : DS :=
  (dSeq (dAsg (dOp eqD (dVar 12) (dFrz (dLst dNil))) (dgName 13))
  (dSeq (dAsg (dCall (S_is_within cProgram) (dCons (dVar 7) (dCons (dVar 9) dNil))) (dgName 14))
  (dSeq (dIfS (dNot (dTest (dCall (S_l_right cProgram) (dCons (dVar 7) (dCons (dVar 1) (dCons (dVar 2) (dCons (dVar 8) dNil))))))) (dRet (dC (.bl false))) dNext)
  (dSeq (dIfS (dOr (dNot (dTest (dIsi .bl (dVar 14)))) (dTest (dOp neD (dVar 14) (dVar 13)))) (dRet (dC (.bl false))) dNext)
  (dAsg (dFrz (dLc (diL (dVar 9)) (dgName 15) dYes (dOp divD (dVar 15) (dC (.int 2))) [15])) (dgName 9))))))
def R_law_b10_s3 (cProgram : Addr) (cBadProgram : Addr) : DS :=
  (dSeq (dIfS (dNot (dTest (dCall (S_l_right cProgram) (dCons (dVar 7) (dCons (dVar 1) (dCons (dVar 2) (dCons (dVar 8) dNil))))))) (dRet (dC (.bl false))) dNext)
  (dSeq (dIfS (dOr (dNot (dTest (dIsi .bl (dVar 14)))) (dTest (dOp neD (dVar 14) (dVar 13)))) (dRet (dC (.bl false))) dNext)
  (dAsg (dFrz (dLc (diL (dVar 9)) (dgName 15) dYes (dOp divD (dVar 15) (dC (.int 2))) [15])) (dgName 9))))
def R_law_b10_s4 (cProgram : Addr) (cBadProgram : Addr) : DS :=
  (dSeq (dIfS (dOr (dNot (dTest (dIsi .bl (dVar 14)))) (dTest (dOp neD (dVar 14) (dVar 13)))) (dRet (dC (.bl false))) dNext)
  (dAsg (dFrz (dLc (diL (dVar 9)) (dgName 15) dYes (dOp divD (dVar 15) (dC (.int 2))) [15])) (dgName 9)))
def R_law_b10_s5 (cProgram : Addr) (cBadProgram : Addr) : DS :=
  (dAsg (dFrz (dLc (diL (dVar 9)) (dgName 15) dYes (dOp divD (dVar 15) (dC (.int 2))) [15])) (dgName 9))
theorem lc_told {α : Type} {i : Nat} {te : DE} {δ : DSt} {R : List D → Own → Prop} {O : Own} (g f : α → D) (l : List α) (he : ∀ a ∈ l, ∀ Q : D → Own → Prop, Q (f a) O → te (δ.set i (some (g a))) O Q) (hl : l.length ≤ 1000000) (h : R (l.map f) O) : lcL (dgName i) dYes te (fun O' => asL O' (.lst (l.map g)) = some (l.map g)) δ R (l.map g) [] O :=
  lc_list (chk := fun O' => asL O' (.lst (l.map g)) = some (l.map g)) (O := O) g f rfl l [] he (by simpa using hl) (by simpa using h)
theorem within_all : ∀ (tp : List Nat) (f : List Int), f.length = tp.length → ((∀ k, k < tp.length → 0 ≤ f.getD k 0 ∧ f.getD k 0 ≤ ((tp.getD k 0 : Nat) : Int)) ↔ withinB tp f = true)
  | [], [], _ => ⟨fun _ => rfl, fun _ k h => by simp at h⟩
  | [], _ :: _, h => by simp at h
  | _ :: _, [], h => by simp at h
  | t :: tp, x :: f, h => by
    have ih := within_all tp f (by simpa using h)
    show _ ↔ (decide (0 ≤ x) && decide (x ≤ (t : Nat)) && withinB tp f) = true
    rw [Bool.and_eq_true, Bool.and_eq_true, decide_eq_true_iff, decide_eq_true_iff, ← ih]
    constructor
    · intro g
      exact ⟨g 0 (by simp), fun k hk => g (k + 1) (by simp; omega)⟩
    · rintro ⟨g0, g⟩ k hk
      cases k with
      | zero => exact g0
      | succ k => exact g k (by simp at hk; omega)
def offB (tp : List Nat) (f : List Int) (k : Nat) : Bool := !(decide (0 ≤ f.getD k 0) && decide (f.getD k 0 ≤ ((tp.getD k 0 : Nat) : Int)))
theorem off_within {tp : List Nat} {f : List Int} (hf : f.length = tp.length) : ((List.range tp.length).filter (offB tp f)).isEmpty = withinB tp f := by
  have g := within_all tp f hf
  cases e : withinB tp f with
  | true =>
    have all := g.mpr e
    have : (List.range tp.length).filter (offB tp f) = [] := List.filter_eq_nil_iff.mpr fun k hk => by
      obtain ⟨a, b⟩ := all k (List.mem_range.mp hk)
      unfold offB
      rw [decide_eq_true a, decide_eq_true b]
      exact Bool.false_ne_true
    rw [this]
    rfl
  | false =>
    cases q : (List.range tp.length).filter (offB tp f) with
    | cons a l => rfl
    | nil =>
      exfalso
      have all : withinB tp f = true := g.mp fun k hk => by
        have := List.filter_eq_nil_iff.mp q k (List.mem_range.mpr hk)
        unfold offB at this
        by_cases a : 0 ≤ f.getD k 0
        · by_cases b : f.getD k 0 ≤ ((tp.getD k 0 : Nat) : Int)
          · exact ⟨a, b⟩
          · rw [decide_eq_false b, Bool.and_false] at this; exact (this rfl).elim
        · rw [decide_eq_false a, Bool.false_and] at this; exact (this rfl).elim
      rw [all] at e
      cases e
theorem law02_end {cP cB : Addr} {h8 : Nat} {items : List (Nat × List D)} {O0 O : Own} {R : D → Own → Prop} {c0 c1 c2 c3 c4 c5 c6 c7 c9 c11 c12 c13 c14 : Option D} (K : Kept O h8 items) (few : items.length ≤ 500000) (eO : O.take O0.length = O0) (h : R (.bl true) O0) :
    R_law02_11 cP cB { nx := fun _ O' => Pure O0 R .non O', rt := Pure O0 R } [c0, c1, c2, c3, c4, c5, c6, c7, some (.own h8), c9, none, c11, c12, c13, c14, none, none] O := by
  have last : Pure O0 R (.bl true) O := ⟨.bl true, eO, .same (.bl _), h⟩
  walk_at "w"
  rw [asL_own K.at_]
  refine lc_filter (fun _ => false) (fun d => d) (asL_own K.at_) (items.map kd) [] (fun d hd Q q => ?_) (fun _ _ z => by cases z) (by rw [List.length_map]; show 0 + _ ≤ _; omega) ?_
  · obtain ⟨x, hx, rfl⟩ := List.mem_map.mp hd
    obtain ⟨a, b, ps, hp⟩ := K.good x hx
    walk_at "w"
    refine oKi (py_own (n := 39) b (hp _ 39 (by decide))) (oKi ((Py.lst hp) _ 40 (by decide)) ?_)
    rw [eqv_py (Py.lst hp)]
    exact q
  have ef : (items.map kd).filter (fun _ => false) = [] := List.filter_eq_nil_iff.mpr fun _ _ z => by cases z
  rw [ef]
  show oK (pyD O 40 (.lst [])) fun p => oK (pyD O 40 (.lst [])) fun q => Pure O0 R (.bl (PyData.eqv p q)) O
  refine oKi ((Py.lst (.nil 0)) O 40 (by decide)) (oKi ((Py.lst (.nil 0)) O 40 (by decide)) ?_)
  rw [eqv_list_nil']
  exact last
theorem law02_turn {cP cB : Addr} {tp : List Nat} {rs : List Row} {f : List Int} {h8 : Nat} {items : List (Nat × List D)} {O : Own} {E : DEnds} {c0 c3 c4 c5 c6 c11 c12 c13 c14 : Option D} (ok : PrOk tp rs) (fl : f.length = tp.length) (K : Kept O h8 items) (few : items.length ≤ 1000)
    (hx : ∀ (O' : Own) (items' : List (Nat × List D)) (f' : List Int) (c12 c13 c14 : Option D), Ext h8 O O' → Kept O' h8 items' → items'.length ≤ items.length + 1 → f'.length = tp.length → E.nx [c0, some (.lst (encN tp)), some (.tup (encRs rs)), c3, c4, c5, c6, some (encPr cP tp rs), some (.own h8), some (.lst (encI f')), none, c11, c12, c13, c14, none, none] O') :
    R_law_b10 cP cB E [c0, some (.lst (encN tp)), some (.tup (encRs rs)), c3, c4, c5, c6, some (encPr cP tp rs), some (.own h8), some (.lst (encI f)), none, c11, c12, c13, c14, none, none] O := by
  have n3 := ok.top.few
  have ow := off_within fl
  have five : ∀ (O' : Own) (items' : List (Nat × List D)) (c12 c13 c14 : Option D), Ext h8 O O' → Kept O' h8 items' → items'.length ≤ items.length + 1 → R_law_b10_s5 cP cB E [c0, some (.lst (encN tp)), some (.tup (encRs rs)), c3, c4, c5, c6, some (encPr cP tp rs), some (.own h8), some (.lst (encI f)), none, c11, c12, c13, c14, none, none] O' := fun O' items' c12 c13 c14 a b w => by
    refine lc_told D.int (fun x => D.int (x / 2)) f (fun x _ Q q => ?_) (by omega) ?_
    · exact ⟨(by decide : (0 : Int) < 2 ∧ (2 : Int) < 1073741824), q⟩
    have e : f.map (fun x => D.int (x / 2)) = encI (f.map fun x => x / 2) := by unfold encI; rw [List.map_map]; rfl
    rw [e]
    exact hx O' items' _ c12 c13 c14 a b w (by rw [List.length_map]; exact fl)
  have one : ∀ c12, c12 = some (D.lst (((List.range tp.length).filter (offB tp f)).map fun k : Nat => D.int (k : Nat))) → R_law_b10_s1 cP cB E [c0, some (.lst (encN tp)), some (.tup (encRs rs)), c3, c4, c5, c6, some (encPr cP tp rs), some (.own h8), some (.lst (encI f)), none, c11, c12, c13, c14, none, none] O := by
    rintro c12 rfl
    have pW : PyAll 1 (((List.range tp.length).filter (offB tp f)).map fun k : Nat => D.int (k : Nat)) (((List.range tp.length).filter (offB tp f)).map fun k : Nat => PyData.int (k : Nat)) := PyAll.map _ _ _ fun k _ => Py.int _
    have eW : (((List.range tp.length).filter (offB tp f)).map fun k : Nat => PyData.int (k : Nat)).isEmpty = withinB tp f := by rw [← ow]; cases (List.range tp.length).filter (offB tp f) <;> rfl
    generalize (((List.range tp.length).filter (offB tp f)).map fun k : Nat => D.int (k : Nat)) = W at pW ⊢
    walk_at "w"
    refine oKi ((Py.lst pW) O 40 (by decide)) (oKi ((Py.lst (.nil 0)) O 40 (by decide)) ?_)
    rw [eqv_list_nil', eW]
    walk_at "w"
    refine ⟨tp, rs, f, _, rfl, rfl, ?_⟩
    refine ⟨tp, rs, h8, items, rfl, ok, K, few, fun O' items' a b w => ?_⟩
    walk_at "w"
    refine ifF (b := !(PyData.eqv (.bool (withinB tp f)) (.bool (withinB tp f)))) (by rw [eqv_bool]; cases withinB tp f <;> rfl) ?_
    exact five O' items' _ _ _ a b w
  walk_at "w"
  rw [encN_length]
  refine ⟨by omega, ?_⟩
  refine lc_gen (O := O) (chk := fun _ => True) (fun k : Nat => D.int (k : Nat)) (offB tp f) (fun k : Nat => D.int (k : Nat)) (fun k => [c0, some (.lst (encN tp)), some (.tup (encRs rs)), c3, c4, c5, c6, some (encPr cP tp rs), some (.own h8), some (.lst (encI f)), some (.int (k : Nat)), c11, c12, c13, c14, none, none]) trivial (List.range tp.length) [] (fun k _ Q q => ?_) (fun k hk Q q => ?_) (fun k _ _ Q q => ?_) (by simp; omega) ?_
  · exact q
  · have hk' := List.mem_range.mp hk
    have g1 : f[k]? = some (f.getD k 0) := by rw [List.getD_eq_getElem?_getD, List.getElem?_eq_getElem (by omega)]; rfl
    have g2 : tp[k]? = some (tp.getD k 0) := by rw [List.getD_eq_getElem?_getD, List.getElem?_eq_getElem hk']; rfl
    unfold offB at q
    generalize f.getD k 0 = x at g1 q
    generalize tp.getD k 0 = t at g2 q
    walk_at "w"
    rw [atD_nat (encI_get g1)]
    walk_at "w"
    refine ifD (fun a => ?_) (fun a => ?_)
    · rw [decide_eq_true a] at q
      walk_at "w"
      rw [atD_nat (encN_get g2)]
      exact q
    · rw [decide_eq_false a] at q
      exact q
  · exact q
  exact one _ rfl
theorem law02_ten {cP cB : Addr} {tp : List Nat} {rs : List Row} {f : List Int} {h8 : Nat} {O0 O : Own} {R : D → Own → Prop} {c0 c3 c4 c5 c6 : Option D} (ok : PrOk tp rs) (fl : f.length = tp.length) (K : Kept O h8 []) (l8 : O0.length ≤ h8) (eO : O.take O0.length = O0) (h : R (.bl true) O0) :
    R_law02_10 cP cB { nx := fun _ O' => Pure O0 R .non O', rt := Pure O0 R } [c0, some (.lst (encN tp)), some (.tup (encRs rs)), c3, c4, c5, c6, some (encPr cP tp rs), some (.own h8), some (.lst (encI f)), none, none, none, none, none, none, none] O := by
  refine ⟨(by decide : (-1000000000 : Int) ≤ 2 ∧ (2 : Int) ≤ 1000000000), ?_⟩
  refine forL_rng 2 (fun j δ O' => ∃ (items : List (Nat × List D)) (f : List Int) (c11 c12 c13 c14 : Option D), O'.take O0.length = O0 ∧ Kept O' h8 items ∧ items.length ≤ j ∧ f.length = tp.length ∧ δ = [c0, some (.lst (encN tp)), some (.tup (encRs rs)), c3, c4, c5, c6, some (encPr cP tp rs), some (.own h8), some (.lst (encI f)), none, c11, c12, c13, c14, none, none]) ⟨[], f, none, none, none, none, eO, K, Nat.le_refl _, fl, rfl⟩ (fun _ _ _ _ => trivial) ?_ ?_
  · rintro j δ O' nx hj ⟨items, f, c11, c12, c13, c14, t, K, w, fl, rfl⟩ hx
    refine law02_turn (cP := cP) (cB := cB) ok fl K (by omega) fun O2 i2 f2 c12 c13 c14 E2 K2 w2 fl2 => ?_
    refine hx _ _ ⟨i2, f2, _, _, _, _, ?_, K2, by omega, fl2, rfl⟩
    have l1 : O0.length ≤ O'.length := by have := congrArg List.length t; rw [List.length_take] at this; omega
    refine List.ext_getElem? fun i => ?_
    by_cases hi : i < O0.length
    · rw [List.getElem?_take_of_lt hi, E2.eq i (by omega) (by omega)]
      have : (O'.take O0.length)[i]? = O0[i]? := by rw [t]
      rw [List.getElem?_take_of_lt hi] at this
      exact this
    · rw [List.getElem?_eq_none (by rw [List.length_take]; omega), List.getElem?_eq_none (by omega)]
  · rintro δ O' ⟨items, f, c11, c12, c13, c14, t, K, w, fl, rfl⟩
    exact law02_end (cP := cP) (cB := cB) K (by omega) t h
theorem law02_eight {cP cB : Addr} {ns : List Int} {tp : List Nat} {rs : List Row} {O0 O : Own} {R : D → Own → Prop} {c3 c4 c5 c6 : Option D} (ok : PrOk tp rs) (eO : O.take O0.length = O0) (h : R (.bl true) O0) :
    R_law02_8 cP cB { nx := fun _ O' => Pure O0 R .non O', rt := Pure O0 R } [some (.scr ns), some (.lst (encN tp)), some (.tup (encRs rs)), c3, c4, c5, c6, some (encPr cP tp rs), none, none, none, none, none, none, none, none, none] O := by
  have n3 := ok.top.few
  have lO : O0.length ≤ O.length := by have := congrArg List.length eO; rw [List.length_take] at this; omega
  generalize ef : (List.range tp.length).map (fun k => cellAt ns (51 + (k : Nat)) % (((tp.getD k 0 : Nat) : Int) + 3) - 1) = f
  have fl : f.length = tp.length := by rw [← ef, List.length_map, List.length_range]
  have K : Kept (O ++ [some (.lst [])]) O.length [] := ⟨top_get, fun _ z => by cases z⟩
  have t : (O ++ [some (DO.lst [])]).take O0.length = O0 := by rw [List.take_append_of_le_length lO]; exact eO
  have ten := law02_ten (cP := cP) (cB := cB) (c0 := some (.scr ns)) (c3 := c3) (c4 := c4) (c5 := c5) (c6 := c6) ok fl K lO t h
  have rest : R_law02_9 cP cB { nx := fun _ O' => Pure O0 R .non O', rt := Pure O0 R } [some (.scr ns), some (.lst (encN tp)), some (.tup (encRs rs)), c3, c4, c5, c6, some (encPr cP tp rs), some (.own O.length), none, none, none, none, none, none, none, none] (O ++ [some (.lst [])]) := by
    generalize O ++ [some (DO.lst [])] = O2 at ten ⊢
    walk_at "w"
    rw [encN_length]
    refine ⟨by omega, ?_⟩
    refine lc_list (O := O2) (chk := fun _ => True) (fun k : Nat => D.int (k : Nat)) (fun k : Nat => D.int (cellAt ns (51 + (k : Nat)) % (((tp.getD k 0 : Nat) : Int) + 3) - 1)) trivial (List.range tp.length) [] (fun k hk Q q => ?_) (by simp; omega) ?_
    · have hk' := List.mem_range.mp hk
      have g2 : tp[k]? = some (tp.getD k 0) := by rw [List.getD_eq_getElem?_getD, List.getElem?_eq_getElem hk']; rfl
      refine ⟨ns, 51 + (k : Nat), rfl, by omega, ?_⟩
      walk_at "w"
      rw [atD_nat (encN_get g2)]
      exact ⟨by show (0 : Int) < _ + 3; omega, q⟩
    have e0 : ([] : List D) ++ (List.range tp.length).map (fun k : Nat => D.int (cellAt ns (51 + (k : Nat)) % (((tp.getD k 0 : Nat) : Int) + 3) - 1)) = encI f := by rw [← ef]; unfold encI; rw [List.map_map]; rfl
    rw [e0]
    exact ten
  exact rest
theorem law02_four {cP cB : Addr} {ns : List Int} {tp : List Nat} {rs : List Row} {O0 : Own} {R : D → Own → Prop} {c3 c4 c5 : Option D} (ok : PrOk tp rs) (h : R (.bl true) O0) :
    R_law02_4 cP cB { nx := fun _ O' => Pure O0 R .non O', rt := Pure O0 R } [some (.scr ns), some (.lst (encN tp)), some (.tup (encRs rs)), c3, c4, c5, none, none, none, none, none, none, none, none, none, none, none] O0 := by
  have n3 := ok.top.few
  have pN : PyAll 1 (encN tp) (tp.map fun t : Nat => PyData.int (t : Nat)) := PyAll.map _ _ tp fun t _ => Py.int _
  have l1 : (O0 ++ [some (DO.lst (encN tp))]).length = O0.length + 1 := by simp
  have eight := law02_eight (cP := cP) (cB := cB) (ns := ns) (c3 := c3) (c4 := c4) (c5 := c5) (c6 := some (.own O0.length)) (O0 := O0) (O := (O0 ++ [some (DO.lst (encN tp))]).set O0.length (some (.lst (encN tp ++ [D.non])))) ok (by rw [top_set]; exact top_take) h
  refine ⟨O0.length + 1, .own O0.length, tp, rs, by rw [l1], ?_, asL_up asL_top, ok, rfl, ?_⟩
  · rw [← l1]; exact top_get
  rw [← l1, top_set]
  refine pr_made ?_
  walk_at "w"
  refine oKi (py_own (n := 39) top_get (pN _ 39 (by decide))) (oKi ((Py.lst pN) _ 40 (by decide)) ?_)
  rw [eqv_py (Py.lst pN)]
  walk_at "w"
  rw [asL_top]
  walk_at "w"
  rw [top_get]
  walk_at "w"
  refine ⟨by rw [encN_length]; omega, ?_⟩
  exact eight
theorem law02_three {cP cB : Addr} {ns : List Int} {tp : List Nat} {rs : List Row} {c : Int} {O0 : Own} {R : D → Own → Prop} (ok : PrOk tp rs) (c9 : cnts rs ≤ 9) (h : R (.bl true) O0) :
    R_law02_3 cP cB { nx := fun _ O' => Pure O0 R .non O', rt := Pure O0 R } [some (.scr ns), some (.lst (encN tp)), some (.tup (encRs rs)), some (.int c), none, none, none, none, none, none, none, none, none, none, none, none, none] O0 := by
  have n3 := ok.top.few
  have n1 := ok.top.pos
  have lr := len_le_cnts rs
  have zok : SmW tp.length (zS tp.length 0) := zS_ok (by decide) (by decide)
  have e2 : encRs rs ++ (List.replicate (12 - cnts rs) [encR (.say (zS tp.length 0))]).flatten = encRs (rs ++ List.replicate (12 - cnts rs) (.say (zS tp.length 0))) := rows_more _ _ rs
  have cn : cnts (rs ++ List.replicate (12 - cnts rs) (.say (zS tp.length 0))) = 12 := by rw [cnts_more]; show cnts rs + (12 - cnts rs) * 1 = 12; omega
  have ok2 : PrOk tp (rs ++ List.replicate (12 - cnts rs) (.say (zS tp.length 0))) := ⟨ok.top, okRs_more (r := .say (zS tp.length 0)) zok _ ok.row, by omega⟩
  have lr2 := len_le_cnts (rs ++ List.replicate (12 - cnts rs) (.say (zS tp.length 0)))
  have e4 : encRs (rs ++ List.replicate (12 - cnts rs) (.say (zS tp.length 0))) ++ [encR (.say (zS tp.length 0))] = encRs ((rs ++ List.replicate (12 - cnts rs) (.say (zS tp.length 0))) ++ List.replicate 1 (.say (zS tp.length 0))) := rows_more _ 1 _
  have bad : BadPr O0 (.lst (encN tp)) (.tup (encRs ((rs ++ List.replicate (12 - cnts rs) (.say (zS tp.length 0))) ++ List.replicate 1 (.say (zS tp.length 0))))) := .many _ tp _ rfl ok.top (okRs_more (r := .say (zS tp.length 0)) zok _ ok2.row) (by rw [cnts_more, cn]; show 12 < 12 + 1 * 1; omega)
  have lp := rowsRs_len rs [] 0
  generalize rs ++ List.replicate (12 - cnts rs) (.say (zS tp.length 0)) = rs2 at e2 cn ok2 lr2 e4 bad
  have four := fun c5 => law02_four (cP := cP) (cB := cB) (ns := ns) (c3 := some (.int c)) (c4 := none) (c5 := c5) (R := R) ok h
  have four2 := fun c5 => law02_four (cP := cP) (cB := cB) (ns := ns) (c3 := some (.int c)) (c4 := none) (c5 := c5) (R := R) ok2 h
  walk_at "w"
  refine ⟨(by decide : (0 : Int) < 2 ∧ (2 : Int) < 1073741824), ?_⟩
  refine ⟨(by decide : (0 : Int) < 4), ?_⟩
  refine ifD (fun _ => ?_) (fun _ => seq_nx (four _))
  walk_at "w"
  rw [encN_length]
  refine mulT_zero n1 n3 ?_
  walk_at "w"
  refine ⟨rs, tp.length, [], rfl, ok.row, by omega, by decide, ?_⟩
  walk_at "w"
  rw [encPRs_length, lp]
  have e5 : (fun i j : Int => D.int (i - j)) 12 ((cnts rs : Nat) : Int) = D.int ((12 - cnts rs : Nat) : Int) := by
    show D.int (12 - ((cnts rs : Nat) : Int)) = _
    rw [show (12 : Int) - ((cnts rs : Nat) : Int) = ((12 - cnts rs : Nat) : Int) from by omega]
  rw [e5]
  refine mulT_tup (k := 12 - cnts rs) (fun z => by cases z) (by omega) (by omega) (by simp) ?_
  have e6 : (List.replicate (12 - cnts rs) [D.tup [.str "say", .tup [.tup (encI (List.replicate tp.length 0)), .int 0]]]).flatten = (List.replicate (12 - cnts rs) [encR (.say (zS tp.length 0))]).flatten := rfl
  rw [e6]
  walk_at "w"
  refine ⟨by rw [encRs_length, flat_one, List.length_replicate]; omega, ?_⟩
  rw [e2]
  walk_at "w"
  refine ⟨by rw [encRs_length]; show _ + 1 ≤ _; omega, ?_⟩
  have e7 : encRs rs2 ++ [D.tup [.str "say", .tup [.tup (encI (List.replicate tp.length 0)), .int 0]]] = encRs (rs2 ++ List.replicate 1 (.say (zS tp.length 0))) := e4
  rw [e7]
  refine ⟨_, _, rfl, bad, ?_⟩
  exact four2 _
theorem sem_law02 (cP cB : Addr) (ds : List D) (O : Own) (R : D → Own → Prop) (h : S_law ds O R) : R_law02 cP cB { nx := fun _ O' => Pure O R .non O', rt := Pure O R } (startD N_law02 ds) O := by
  obtain ⟨ns, rfl, hn, h⟩ := h
  refine ⟨ns, 8, rfl, by decide, fun tp rs top row cn => ?_⟩
  have ok : PrOk tp rs := ⟨top, row, by omega⟩
  refine ⟨ns, 50, rfl, by decide, ?_⟩
  generalize cellAt ns 50 = c
  have three := law02_three (cP := cP) (cB := cB) (ns := ns) (c := c) ok (by omega) h
  walk_at "w"
  refine ⟨(by decide : (0 : Int) < 2), ?_⟩
  refine ifD (fun _ => ?_) (fun _ => seq_nx three)
  walk_at "w"
  refine ⟨(by decide : (0 : Int) < 2 ∧ (2 : Int) < 1073741824), ?_⟩
  refine ⟨c / 2, tp, rs, rfl, ok, fun d1 d2 O' t bad => ?_⟩
  refine ⟨d1, d2, rfl, bad, ?_⟩
  exact ⟨.bl true, t, .same (.bl _), h⟩
end DL

namespace DL
open PySem L2
def spLaw (K : PySem.W.Frag) : Sp := fun vs H Q _ => ∃ (a : Addr) (ns : List Int), vs = [.ref a] ∧ SqL K H a (ns.map V.int) ∧ ns.length ≤ 63 ∧ ∀ H', Q (.bl true) H'
theorem hol_nil {K : PySem.W.Frag} {H : Hp} : Hol K H H [] [] := ⟨fun _ _ e => e, List.nodup_nil, fun _ h => (List.not_mem_nil h).elim, rfl, fun _ _ e => by cases e⟩
theorem law_of {P : Program} {w : World} {K : PySem.W.Frag} {mg : Str → Option Value} {base : Heap} {k : Nat} {f : Addr} {fd : FuncData} {x : Str} (G : FnD P w K mg base k f fd [x] S_law) : FnOk P w K mg base CX0 k f fd [x] (spLaw K) :=
  G.imp fun vs H Q E ⟨a, ns, e, hS, hl, q⟩ => ⟨H, [], [.scr ns], [], fun d _ => d = .bl true, by rw [e]; exact .cons (.scr hS) .nil, hol_nil, ⟨ns, rfl, hl, rfl⟩, fun v H' F' m' d O' s h r e => by
    subst e
    cases r
    exact q H'⟩
theorem fnD_never {P : Program} {w : World} {K : PySem.W.Frag} {mg : Str → Option Value} {base : Heap} {x qual : Str} {st : Stmt} {f : Addr} {fd : FuncData} {N ps : List Str} {k : Nat} (F : Fun K x qual st f fd) (Sc : FnScope N ps (defScope st)) : FnD P w K mg base (k + 1) f fd ps fun _ _ _ => False :=
  F.ok Sc (fun vs H Q E h => by obtain ⟨_, _, _, _, _, _, _, q, _⟩ := h; exact q.elim) fun cdv A outer s H vs Q E hr hsp => by obtain ⟨_, _, _, _, _, _, _, q, _⟩ := hsp; exact q.elim
end DL
namespace DL
open PySem L2
def top (i : Nat) : Stmt := PySem.Challenge.pw_loopwords_k02_programs.main.body.getD i (.Pass ⟨0, 0, 0, 0⟩)
abbrev s_l_at : Stmt := top 25
abbrev s_l_tops : Stmt := top 27
abbrev s_l_unit : Stmt := top 28
abbrev s_l_word : Stmt := top 29
abbrev s_l_into : Stmt := top 30
abbrev s_l_row : Stmt := top 31
abbrev s_l_rows : Stmt := top 32
abbrev s_l_program : Stmt := top 33
abbrev s_is_among : Stmt := top 13
abbrev s_are_tops : Stmt := top 20
abbrev s_is_sum : Stmt := top 14
abbrev s_are_words : Stmt := top 15
abbrev s_is_row : Stmt := top 16
abbrev s_are_rows : Stmt := top 17
abbrev s_inner_rows : Stmt := top 19
abbrev s_count : Stmt := top 18
abbrev s_Program_init : Stmt := inClass (top 22) 0
abbrev s_l_places : Stmt := top 34
abbrev s_l_changed : Stmt := top 35
abbrev s_l_bad_sum : Stmt := top 36
abbrev s_l_bad_row : Stmt := top 37
abbrev s_l_bad : Stmt := top 38
abbrev s_l_refused : Stmt := top 39
abbrev s_is_within : Stmt := top 23
abbrev s_loops_in : Stmt := top 21
abbrev s_Program_loops : Stmt := inClass (top 22) 2
abbrev s_Program_row : Stmt := inClass (top 22) 1
abbrev s_l_right : Stmt := top 40
abbrev s_law02 : Stmt := top 41
structure Txt (K : PySem.W.Frag) (mg : Str → Option Value) where
  b_ValueError : mg "ValueError" = none
  b_len : mg "len" = none
  b_range : mg "range" = none
  b_tuple : mg "tuple" = none
  b_list : mg "list" = none
  b_isinstance : mg "isinstance" = none
  b_int : mg "int" = none
  b_bool : mg "bool" = none
  b_zip : mg "zip" = none
  t_MOST_BOXES : Tok
  c_MOST_BOXES : mg "MOST_BOXES" = some (.int 3 t_MOST_BOXES)
  t_MOST_TOP : Tok
  c_MOST_TOP : mg "MOST_TOP" = some (.int 9 t_MOST_TOP)
  t_MOST_MORE : Tok
  c_MOST_MORE : mg "MOST_MORE" = some (.int 99 t_MOST_MORE)
  t_MOST_NUMBER : Tok
  c_MOST_NUMBER : mg "MOST_NUMBER" = some (.int 9 t_MOST_NUMBER)
  t_MOST_WORDS : Tok
  c_MOST_WORDS : mg "MOST_WORDS" = some (.int 3 t_MOST_WORDS)
  t_MOST_ROWS : Tok
  c_MOST_ROWS : mg "MOST_ROWS" = some (.int 12 t_MOST_ROWS)
  t_MOST_DEEP : Tok
  c_MOST_DEEP : mg "MOST_DEEP" = some (.int 3 t_MOST_DEEP)
  d_l_at : Def K "_law_at" "_law_at" s_l_at ["_law_script", "_law_k"]
  g_l_at : mg "_law_at" = some (.ref d_l_at.f)
  d_l_tops : Def K "_law_tops" "_law_tops" s_l_tops ["_law_script"]
  g_l_tops : mg "_law_tops" = some (.ref d_l_tops.f)
  d_l_unit : Def K "_law_unit" "_law_unit" s_l_unit ["_law_many", "_law_box", "_law_number", "_law_more"]
  g_l_unit : mg "_law_unit" = some (.ref d_l_unit.f)
  d_l_word : Def K "_law_word" "_law_word" s_l_word ["_law_cell", "_law_many"]
  g_l_word : mg "_law_word" = some (.ref d_l_word.f)
  d_l_into : Def K "_law_into" "_law_into" s_l_into ["_law_cell", "_law_many", "_law_box"]
  g_l_into : mg "_law_into" = some (.ref d_l_into.f)
  d_l_row : Def K "_law_row" "_law_row" s_l_row ["_law_state", "_law_deep"]
  g_l_row : mg "_law_row" = some (.ref d_l_row.f)
  d_l_rows : Def K "_law_rows" "_law_rows" s_l_rows ["_law_state", "_law_deep", "_law_most"]
  g_l_rows : mg "_law_rows" = some (.ref d_l_rows.f)
  d_l_program : Def K "_law_program" "_law_program" s_l_program ["_law_script", "_law_most"]
  g_l_program : mg "_law_program" = some (.ref d_l_program.f)
  d_is_among : Def K "is_among" "is_among" s_is_among ["thing", "least", "most"]
  g_is_among : mg "is_among" = some (.ref d_is_among.f)
  d_are_tops : Def K "are_tops" "are_tops" s_are_tops ["thing"]
  g_are_tops : mg "are_tops" = some (.ref d_are_tops.f)
  d_is_sum : Def K "is_sum" "is_sum" s_is_sum ["thing", "many"]
  g_is_sum : mg "is_sum" = some (.ref d_is_sum.f)
  d_are_words : Def K "are_words" "are_words" s_are_words ["thing", "many"]
  g_are_words : mg "are_words" = some (.ref d_are_words.f)
  d_is_row : Def K "is_row" "is_row" s_is_row ["thing", "many", "deep"]
  g_is_row : mg "is_row" = some (.ref d_is_row.f)
  d_are_rows : Def K "are_rows" "are_rows" s_are_rows ["thing", "many", "deep"]
  g_are_rows : mg "are_rows" = some (.ref d_are_rows.f)
  d_inner_rows : Def K "inner_rows" "inner_rows" s_inner_rows ["row"]
  g_inner_rows : mg "inner_rows" = some (.ref d_inner_rows.f)
  d_count : Def K "count" "count" s_count ["rows"]
  g_count : mg "count" = some (.ref d_count.f)
  d_Program_init : Def K "__init__" "Program.__init__" s_Program_init ["self", "tops", "rows"]
  d_l_places : Def K "_law_places" "_law_places" s_l_places ["_law_rows_here", "_law_ahead"]
  g_l_places : mg "_law_places" = some (.ref d_l_places.f)
  d_l_changed : Def K "_law_changed" "_law_changed" s_l_changed ["_law_rows_here", "_law_place", "_law_row_here"]
  g_l_changed : mg "_law_changed" = some (.ref d_l_changed.f)
  d_l_bad_sum : Def K "_law_bad_sum" "_law_bad_sum" s_l_bad_sum ["_law_cell", "_law_one"]
  g_l_bad_sum : mg "_law_bad_sum" = some (.ref d_l_bad_sum.f)
  d_l_bad_row : Def K "_law_bad_row" "_law_bad_row" s_l_bad_row ["_law_cell", "_law_row_here", "_law_many"]
  g_l_bad_row : mg "_law_bad_row" = some (.ref d_l_bad_row.f)
  d_l_bad : Def K "_law_bad" "_law_bad" s_l_bad ["_law_cell", "_law_tops_here", "_law_rows_here"]
  g_l_bad : mg "_law_bad" = some (.ref d_l_bad.f)
  d_l_refused : Def K "_law_refused" "_law_refused" s_l_refused ["_law_tops_here", "_law_rows_here"]
  g_l_refused : mg "_law_refused" = some (.ref d_l_refused.f)
  d_is_within : Def K "is_within" "is_within" s_is_within ["program", "filling"]
  g_is_within : mg "is_within" = some (.ref d_is_within.f)
  d_loops_in : Def K "loops_in" "loops_in" s_loops_in ["rows", "ahead"]
  g_loops_in : mg "loops_in" = some (.ref d_loops_in.f)
  d_Program_loops : Def K "loops" "Program.loops" s_Program_loops ["self"]
  d_Program_row : Def K "row" "Program.row" s_Program_row ["self", "place"]
  d_l_right : Def K "_law_right" "_law_right" s_l_right ["_law_program_here", "_law_tops_here", "_law_rows_here", "_law_kept"]
  g_l_right : mg "_law_right" = some (.ref d_l_right.f)
  d_law02 : Def K "law" "law" s_law02 ["_law_script"]
  aProgram : Addr
  clProgram : Cls K aProgram
  gProgram : mg "Program" = some (.ref aProgram)
  mkProgram : Mk K aProgram d_Program_init.f
  aBadProgram : Addr
  c_BadProgram : mg "BadProgram" = some (.ref aBadProgram)
  aBadFilling : Addr
  c_BadFilling : mg "BadFilling" = some (.ref aBadFilling)
  aNoLoop : Addr
  c_NoLoop : mg "NoLoop" = some (.ref aNoLoop)
  aLoopError : Addr
  c_LoopError : mg "LoopError" = some (.ref aLoopError)
  xBadProgram : XC K aBadProgram
  nBadProgram : XN K aBadProgram
  nBadFilling : XN K aBadFilling
  nNoLoop : XN K aNoLoop
  nLoopError : XN K aLoopError
  sBadProgram_BadFilling : PySem.W.subIn K (.ref aBadProgram) (.ref aBadFilling) = some false
  sBadProgram_NoLoop : PySem.W.subIn K (.ref aBadProgram) (.ref aNoLoop) = some false
  sBadProgram_LoopError : PySem.W.subIn K (.ref aBadProgram) (.ref aLoopError) = some true
  sBadProgram_ValueError : PySem.W.subIn K (.ref aBadProgram) (.type "ValueError") = some true
  naProgram_tops : NoAttr K aProgram "tops"
  naProgram_rows : NoAttr K aProgram "rows"
  meProgram_loops : Meth K aProgram "loops" d_Program_loops.f
  meProgram_row : Meth K aProgram "row" d_Program_row.f
theorem sc_l_at : FnScope N_l_at ["_law_script", "_law_k"] (defScope s_l_at) := ⟨rfl, rfl, rfl, by decide +kernel, rfl, by decide +kernel, by decide +kernel⟩
theorem sc_l_tops : FnScope N_l_tops ["_law_script"] (defScope s_l_tops) := ⟨rfl, rfl, rfl, by decide +kernel, rfl, by decide +kernel, by decide +kernel⟩
theorem sc_l_unit : FnScope N_l_unit ["_law_many", "_law_box", "_law_number", "_law_more"] (defScope s_l_unit) := ⟨rfl, rfl, rfl, by decide +kernel, rfl, by decide +kernel, by decide +kernel⟩
theorem sc_l_word : FnScope N_l_word ["_law_cell", "_law_many"] (defScope s_l_word) := ⟨rfl, rfl, rfl, by decide +kernel, rfl, by decide +kernel, by decide +kernel⟩
theorem sc_l_into : FnScope N_l_into ["_law_cell", "_law_many", "_law_box"] (defScope s_l_into) := ⟨rfl, rfl, rfl, by decide +kernel, rfl, by decide +kernel, by decide +kernel⟩
theorem sc_l_row : FnScope N_l_row ["_law_state", "_law_deep"] (defScope s_l_row) := ⟨rfl, rfl, rfl, by decide +kernel, rfl, by decide +kernel, by decide +kernel⟩
theorem sc_l_rows : FnScope N_l_rows ["_law_state", "_law_deep", "_law_most"] (defScope s_l_rows) := ⟨rfl, rfl, rfl, by decide +kernel, rfl, by decide +kernel, by decide +kernel⟩
theorem sc_l_program : FnScope N_l_program ["_law_script", "_law_most"] (defScope s_l_program) := ⟨rfl, rfl, rfl, by decide +kernel, rfl, by decide +kernel, by decide +kernel⟩
theorem sc_is_among : FnScope N_is_among ["thing", "least", "most"] (defScope s_is_among) := ⟨rfl, rfl, rfl, by decide +kernel, rfl, by decide +kernel, by decide +kernel⟩
theorem sc_are_tops : FnScope N_are_tops ["thing"] (defScope s_are_tops) := ⟨rfl, rfl, rfl, by decide +kernel, rfl, by decide +kernel, by decide +kernel⟩
theorem sc_is_sum : FnScope N_is_sum ["thing", "many"] (defScope s_is_sum) := ⟨rfl, rfl, rfl, by decide +kernel, rfl, by decide +kernel, by decide +kernel⟩
theorem sc_are_words : FnScope N_are_words ["thing", "many"] (defScope s_are_words) := ⟨rfl, rfl, rfl, by decide +kernel, rfl, by decide +kernel, by decide +kernel⟩
theorem sc_is_row : FnScope N_is_row ["thing", "many", "deep"] (defScope s_is_row) := ⟨rfl, rfl, rfl, by decide +kernel, rfl, by decide +kernel, by decide +kernel⟩
theorem sc_are_rows : FnScope N_are_rows ["thing", "many", "deep"] (defScope s_are_rows) := ⟨rfl, rfl, rfl, by decide +kernel, rfl, by decide +kernel, by decide +kernel⟩
theorem sc_inner_rows : FnScope N_inner_rows ["row"] (defScope s_inner_rows) := ⟨rfl, rfl, rfl, by decide +kernel, rfl, by decide +kernel, by decide +kernel⟩
theorem sc_count : FnScope N_count ["rows"] (defScope s_count) := ⟨rfl, rfl, rfl, by decide +kernel, rfl, by decide +kernel, by decide +kernel⟩
theorem sc_Program_init : FnScope N_Program_init ["self", "tops", "rows"] (defScope s_Program_init) := ⟨rfl, rfl, rfl, by decide +kernel, rfl, by decide +kernel, by decide +kernel⟩
theorem sc_l_places : FnScope N_l_places ["_law_rows_here", "_law_ahead"] (defScope s_l_places) := ⟨rfl, rfl, rfl, by decide +kernel, rfl, by decide +kernel, by decide +kernel⟩
theorem sc_l_changed : FnScope N_l_changed ["_law_rows_here", "_law_place", "_law_row_here"] (defScope s_l_changed) := ⟨rfl, rfl, rfl, by decide +kernel, rfl, by decide +kernel, by decide +kernel⟩
theorem sc_l_bad_sum : FnScope N_l_bad_sum ["_law_cell", "_law_one"] (defScope s_l_bad_sum) := ⟨rfl, rfl, rfl, by decide +kernel, rfl, by decide +kernel, by decide +kernel⟩
theorem sc_l_bad_row : FnScope N_l_bad_row ["_law_cell", "_law_row_here", "_law_many"] (defScope s_l_bad_row) := ⟨rfl, rfl, rfl, by decide +kernel, rfl, by decide +kernel, by decide +kernel⟩
theorem sc_l_bad : FnScope N_l_bad ["_law_cell", "_law_tops_here", "_law_rows_here"] (defScope s_l_bad) := ⟨rfl, rfl, rfl, by decide +kernel, rfl, by decide +kernel, by decide +kernel⟩
theorem sc_l_refused : FnScope N_l_refused ["_law_tops_here", "_law_rows_here"] (defScope s_l_refused) := ⟨rfl, rfl, rfl, by decide +kernel, rfl, by decide +kernel, by decide +kernel⟩
theorem sc_is_within : FnScope N_is_within ["program", "filling"] (defScope s_is_within) := ⟨rfl, rfl, rfl, by decide +kernel, rfl, by decide +kernel, by decide +kernel⟩
theorem sc_loops_in : FnScope N_loops_in ["rows", "ahead"] (defScope s_loops_in) := ⟨rfl, rfl, rfl, by decide +kernel, rfl, by decide +kernel, by decide +kernel⟩
theorem sc_Program_loops : FnScope N_Program_loops ["self"] (defScope s_Program_loops) := ⟨rfl, rfl, rfl, by decide +kernel, rfl, by decide +kernel, by decide +kernel⟩
theorem sc_Program_row : FnScope N_Program_row ["self", "place"] (defScope s_Program_row) := ⟨rfl, rfl, rfl, by decide +kernel, rfl, by decide +kernel, by decide +kernel⟩
theorem sc_l_right : FnScope N_l_right ["_law_program_here", "_law_tops_here", "_law_rows_here", "_law_kept"] (defScope s_l_right) := ⟨rfl, rfl, rfl, by decide +kernel, rfl, by decide +kernel, by decide +kernel⟩
theorem sc_law02 : FnScope N_law02 ["_law_script"] (defScope s_law02) := ⟨rfl, rfl, rfl, by decide +kernel, rfl, by decide +kernel, by decide +kernel⟩
section
variable {P : Program} {w : World} {K : PySem.W.Frag} {mg : Str → Option Value} {base : Heap}
theorem ok_l_at (T : Txt K mg) : FnD P w K mg base 1 T.d_l_at.f T.d_l_at.fd ["_law_script", "_law_k"] S_l_at := by
  have nd := sc_l_at.nd
  refine fnD_pure T.d_l_at.F sc_l_at (len_l_at) fun cdv A outer s H E hr => ⟨_, R_l_at,
  (pdss_cons (pds_set (i := 2) nd rfl (Or.inl rfl) pd_int)
  (pdss_cons (pds_if (pdt_cmp op_gt sndo_gt (pd_callB (r := rLenS K) cr_len sndc_len rfl T.b_len PySem.boot_len (pda_cons (pdv 0) pda_nil)) pd_int (nomark _))
    (pdss_one (pds_set (i := 2) nd rfl (Or.inl rfl) (pd_ix (r := rIx K) ix_seq sndo_ix (pdv 0) (pd_op op_mod sndo_mod (pdv 1) (pd_callB (r := rLenS K) cr_len sndc_len rfl T.b_len PySem.boot_len (pda_cons (pdv 0) pda_nil))) (fun _ _ => rfl))))
    pdss_nil)
  (pdss_one (pds_ret (pd_op op_mod sndo_mod (pd_op (r := rMul3 K) op_mul3 sndo_mul (pd_op (r := rAdd4 K) op_add4 sndo_add (pdv 2) (pd_op (r := rMul3 K) op_mul3 sndo_mul pd_int (pdv 1))) pd_int) pd_int))))), sem_l_at⟩
theorem ok_l_tops (T : Txt K mg) : FnD P w K mg base 2 T.d_l_tops.f T.d_l_tops.fd ["_law_script"] S_l_tops := by
  have nd := sc_l_tops.nd
  have G_l_at : FnD P w K mg base 1 T.d_l_at.f T.d_l_at.fd ["_law_script", "_law_k"] S_l_at := ok_l_at T
  refine fnD_pure T.d_l_tops.F sc_l_tops (len_l_tops) fun cdv A outer s H E hr => ⟨_, R_l_tops,
  (pdss_cons (pds_set (i := 1) nd rfl (Or.inl rfl) (pd_callK G_l_at (hr.mono (by omega)) rfl T.g_l_at T.d_l_at.F.kp T.d_l_at.b (pda_cons (pdv 0) (pda_cons pd_int pda_nil))))
  (pdss_cons (pds_set (i := 2) nd rfl (Or.inl rfl) (pd_ix (r := rIx K) ix_seq sndo_ix (pd_frz (pl_lst (pda_cons pd_int (pda_cons pd_int (pda_cons pd_int (pda_cons pd_int pda_nil)))))) (pd_op op_mod sndo_mod (pdv 1) pd_int) (fun _ _ => rfl)))
  (pdss_cons (pds_set (i := 3) nd rfl (Or.inr rfl) (pd_ix (r := rIx K) ix_seq sndo_ix (pd_frz (pl_lst (pda_cons pd_int (pda_cons pd_int (pda_cons pd_int pda_nil))))) (pd_op op_sub sndo_sub (pdv 2) pd_int) (fun _ _ => rfl)))
  (pdss_cons (lc_new (pds_setLc (i := 4) (own := [("_law_k", 5)]) rfl nd rfl rfl (sw_true rfl rfl rfl (by decide +kernel)) (pdi_rng1 rfl T.b_range (pdv 2)) (blkOk_by (by rfl)) (fun _ _ _ _ _ => pdg_name (i := 5) nd rfl (by first | exact Or.inl rfl | exact Or.inr rfl)) (own_name (by decide)) (fun _ _ _ _ _ => pdts_nil) (fun _ _ _ _ _ => (pd_op op_mod sndo_mod (pd_callK G_l_at (hr.mono (by omega)) rfl T.g_l_at T.d_l_at.F.kp T.d_l_at.b (pda_cons (pdv 0) (pda_cons (pd_op (r := rAdd4 K) op_add4 sndo_add pd_int (pdv 5)) pda_nil))) (pdv 3)))))
  (pdss_cons (pds_if (pdt_cmp (r := rEqD K) (op_eqD (Room_u64 hr)) sndo_eq (pd_op op_mod sndo_mod (pd_op op_fdiv sndo_div (pdv 1) pd_int) pd_int) pd_int (nomark _))
    (pdss_one (pds_asg pd_int (pdg_sub (pdv 4) (pd_op op_mod sndo_mod (pd_op op_fdiv sndo_div (pdv 1) pd_int) (pdv 2)))))
    pdss_nil)
  (pdss_one (pds_ret (pdv 4)))))))), sem_l_tops⟩
theorem ok_l_unit (T : Txt K mg) : FnD P w K mg base 1 T.d_l_unit.f T.d_l_unit.fd ["_law_many", "_law_box", "_law_number", "_law_more"] S_l_unit := by
  have nd := sc_l_unit.nd
  refine fnD_pure T.d_l_unit.F sc_l_unit (len_l_unit) fun cdv A outer s H E hr => ⟨_, R_l_unit,
  (pdss_cons (pds_set (i := 4) nd rfl (Or.inl rfl) (pd_new (pl_times (pd_frz (pl_lst (pda_cons pd_int pda_nil))) (pdv 0))))
  (pdss_cons (pds_asg (pdv 2) (pdg_sub (pdv 4) (pdv 1)))
  (pdss_one (pds_ret (pd_tup (pda_cons (pd_callTy (r := rTupOf K) cr_tuple sndc_tuple rfl T.b_tuple PyProof.Rows.boot_tuple (pda_cons (pdv 4) pda_nil)) (pda_cons (pdv 3) pda_nil))))))), sem_l_unit⟩
theorem ok_l_word (T : Txt K mg) : FnD P w K mg base 2 T.d_l_word.f T.d_l_word.fd ["_law_cell", "_law_many"] S_l_word := by
  have nd := sc_l_word.nd
  have G_l_unit : FnD P w K mg base 1 T.d_l_unit.f T.d_l_unit.fd ["_law_many", "_law_box", "_law_number", "_law_more"] S_l_unit := ok_l_unit T
  refine fnD_pure T.d_l_word.F sc_l_word (len_l_word) fun cdv A outer s H E hr => ⟨_, R_l_word,
  (pdss_cons (pds_set (i := 2) nd rfl (Or.inl rfl) (pd_op op_mod sndo_mod (pdv 0) pd_int))
  (pdss_cons (pds_set (i := 3) nd rfl (Or.inl rfl) (pd_op op_mod sndo_mod (pd_op op_fdiv sndo_div (pdv 0) pd_int) (pdv 1)))
  (pdss_cons (pds_set (i := 4) nd rfl (Or.inl rfl) (pd_op op_mod sndo_mod (pd_op op_fdiv sndo_div (pdv 0) pd_int) pd_int))
  (pdss_cons (pds_if (pdt_cmp (r := rLt2 K) (op_lt2 (Room_u0 hr)) sndo_lt (pdv 2) pd_int (nomark _))
    (pdss_one (pds_ret (pd_callK G_l_unit (hr.mono (by omega)) rfl T.g_l_unit T.d_l_unit.F.kp T.d_l_unit.b (pda_cons (pdv 1) (pda_cons (pdv 3) (pda_cons pd_int (pda_cons (pd_neg (pdv 4)) pda_nil)))))))
    pdss_nil)
  (pdss_cons (pds_if (pdt_cmp (r := rLt2 K) (op_lt2 (Room_u0 hr)) sndo_lt (pdv 2) pd_int (nomark _))
    (pdss_one (pds_ret (pd_callK G_l_unit (hr.mono (by omega)) rfl T.g_l_unit T.d_l_unit.F.kp T.d_l_unit.b (pda_cons (pdv 1) (pda_cons (pdv 3) (pda_cons (pd_neg pd_int) (pda_cons (pdv 4) pda_nil)))))))
    pdss_nil)
  (pdss_cons (pds_if (PDW.pt (pdw_and (pdt_cmp (r := rEqD K) (op_eqD (Room_u64 hr)) sndo_eq (pdv 2) pd_int (nomark _)) (pdw_and1 (pdt_cmp op_gt sndo_gt (pdv 1) pd_int (nomark _)))))
    (pdss_cons (pds_set (i := 5) nd rfl (Or.inl rfl) (pd_new (pl_listK (K := K) rfl T.b_list PyProof.Rows.boot_list (pd_ix (r := rIx K) ix_seq sndo_ix (pd_callK G_l_unit (hr.mono (by omega)) rfl T.g_l_unit T.d_l_unit.F.kp T.d_l_unit.b (pda_cons (pdv 1) (pda_cons (pdv 3) (pda_cons pd_int (pda_cons pd_int pda_nil))))) pd_int (fun _ _ => rfl)))))
  (pdss_cons (pds_asg (pd_neg pd_int) (pdg_sub (pdv 5) (pd_op op_mod sndo_mod (pd_op (r := rAdd4 K) op_add4 sndo_add (pdv 3) pd_int) (pdv 1))))
  (pdss_one (pds_ret (pd_tup (pda_cons (pd_callTy (r := rTupOf K) cr_tuple sndc_tuple rfl T.b_tuple PyProof.Rows.boot_tuple (pda_cons (pdv 5) pda_nil)) (pda_cons (pd_op op_sub sndo_sub (pd_op op_mod sndo_mod (pd_op op_fdiv sndo_div (pdv 0) pd_int) pd_int) pd_int) pda_nil)))))))
    pdss_nil)
  (pdss_cons (pds_if (pdt_cmp op_gt sndo_gt (pd_op op_mod sndo_mod (pd_op op_fdiv sndo_div (pdv 0) pd_int) pd_int) pd_int (nomark _))
    (pdss_one (pds_ret (pd_tup (pda_cons (pd_callTy (r := rTupOf K) cr_tuple sndc_tuple rfl T.b_tuple PyProof.Rows.boot_tuple (pda_cons (pd_frz (pl_lc (own := [("_law_k", 6)]) rfl nd (pdi_rng1 rfl T.b_range (pdv 1)) (blkOk_by (by rfl)) (fun _ _ _ _ _ => pdg_name (i := 6) nd rfl (by first | exact Or.inl rfl | exact Or.inr rfl)) (own_name (by decide)) (fun _ _ _ _ _ => pdts_nil) (fun _ _ _ _ _ => (pd_op op_sub sndo_sub (pd_op op_mod sndo_mod (pd_op op_fdiv sndo_div (pdv 0) (pd_ix (r := rIx K) ix_seq sndo_ix (pd_frz (pl_lst (pda_cons pd_int (pda_cons pd_int (pda_cons pd_int pda_nil))))) (pdv 6) (fun _ _ => rfl))) pd_int) pd_int)))) pda_nil)) (pda_cons (pd_op op_sub sndo_sub (pd_op op_mod sndo_mod (pd_op op_fdiv sndo_div (pdv 0) pd_int) pd_int) pd_int) pda_nil)))))
    pdss_nil)
  (pdss_one (pds_ret (pd_tup (pda_cons (pd_callTy (r := rTupOf K) cr_tuple sndc_tuple rfl T.b_tuple PyProof.Rows.boot_tuple (pda_cons (pd_frz (pl_lc (own := [("_law_k", 6)]) rfl nd (pdi_rng1 rfl T.b_range (pdv 1)) (blkOk_by (by rfl)) (fun _ _ _ _ _ => pdg_name (i := 6) nd rfl (by first | exact Or.inl rfl | exact Or.inr rfl)) (own_name (by decide)) (fun _ _ _ _ _ => pdts_nil) (fun _ _ _ _ _ => (pd_op op_sub sndo_sub (pd_op op_mod sndo_mod (pd_op op_fdiv sndo_div (pdv 0) (pd_ix (r := rIx K) ix_seq sndo_ix (pd_frz (pl_lst (pda_cons pd_int (pda_cons pd_int (pda_cons pd_int pda_nil))))) (pdv 6) (fun _ _ => rfl))) pd_int) pd_int)))) pda_nil)) (pda_cons (pd_op op_sub sndo_sub (pd_op op_mod sndo_mod (pd_op op_fdiv sndo_div (pdv 0) pd_int) pd_int) pd_int) pda_nil)))))))))))), sem_l_word⟩
theorem ok_l_into (T : Txt K mg) : FnD P w K mg base 3 T.d_l_into.f T.d_l_into.fd ["_law_cell", "_law_many", "_law_box"] S_l_into := by
  have nd := sc_l_into.nd
  have G_l_word : FnD P w K mg base 2 T.d_l_word.f T.d_l_word.fd ["_law_cell", "_law_many"] S_l_word := ok_l_word T
  have G_l_unit : FnD P w K mg base 1 T.d_l_unit.f T.d_l_unit.fd ["_law_many", "_law_box", "_law_number", "_law_more"] S_l_unit := ok_l_unit T
  refine fnD_pure T.d_l_into.F sc_l_into (len_l_into) fun cdv A outer s H E hr => ⟨_, R_l_into,
  (pdss_cons (pds_set (i := 3) nd rfl (Or.inl rfl) (pd_op op_mod sndo_mod (pdv 0) pd_int))
  (pdss_cons (pds_if (pdt_cmp (r := rLt2 K) (op_lt2 (Room_u0 hr)) sndo_lt (pdv 3) pd_int (nomark _))
    (pdss_one (pds_ret (pd_callK G_l_unit (hr.mono (by omega)) rfl T.g_l_unit T.d_l_unit.F.kp T.d_l_unit.b (pda_cons (pdv 1) (pda_cons (pdv 2) (pda_cons pd_int (pda_cons (pd_ix (r := rIx K) ix_seq sndo_ix (pd_frz (pl_lst (pda_cons pd_int (pda_cons pd_int (pda_cons (pd_neg pd_int) pda_nil))))) (pdv 3) (fun _ _ => rfl)) pda_nil)))))))
    pdss_nil)
  (pdss_cons (pds_if (pdt_cmp (r := rEqD K) (op_eqD (Room_u64 hr)) sndo_eq (pdv 3) pd_int (nomark _))
    (pdss_one (pds_ret (pd_callK G_l_unit (hr.mono (by omega)) rfl T.g_l_unit T.d_l_unit.F.kp T.d_l_unit.b (pda_cons (pdv 1) (pda_cons (pdv 2) (pda_cons pd_int (pda_cons (pd_op op_mod sndo_mod (pd_op op_fdiv sndo_div (pdv 0) pd_int) pd_int) pda_nil)))))))
    pdss_nil)
  (pdss_cons (pds_if (pdt_cmp (r := rEqD K) (op_eqD (Room_u64 hr)) sndo_eq (pdv 3) pd_int (nomark _))
    (pdss_one (pds_ret (pd_callK G_l_unit (hr.mono (by omega)) rfl T.g_l_unit T.d_l_unit.F.kp T.d_l_unit.b (pda_cons (pdv 1) (pda_cons (pd_op op_mod sndo_mod (pd_op op_fdiv sndo_div (pdv 0) pd_int) (pdv 1)) (pda_cons pd_int (pda_cons (pd_op op_sub sndo_sub (pd_op op_mod sndo_mod (pd_op op_fdiv sndo_div (pdv 0) pd_int) pd_int) pd_int) pda_nil)))))))
    pdss_nil)
  (pdss_one (pds_ret (pd_callK G_l_word (hr.mono (by omega)) rfl T.g_l_word T.d_l_word.F.kp T.d_l_word.b (pda_cons (pd_op op_fdiv sndo_div (pdv 0) pd_int) (pda_cons (pdv 1) pda_nil))))))))), sem_l_into⟩
theorem step_l_row (T : Txt K mg) (n k : Nat) (hk : 3 ≤ k) (G_l_rows : FnD P w K mg base k T.d_l_rows.f T.d_l_rows.fd ["_law_state", "_law_deep", "_law_most"] (S_l_rowsP n)) : FnD P w K mg base (k + 1) T.d_l_row.f T.d_l_row.fd ["_law_state", "_law_deep"] (S_l_row n) := by
  have nd := sc_l_row.nd
  have G_l_at : FnD P w K mg base 1 T.d_l_at.f T.d_l_at.fd ["_law_script", "_law_k"] S_l_at := ok_l_at T
  have G_l_unit : FnD P w K mg base 1 T.d_l_unit.f T.d_l_unit.fd ["_law_many", "_law_box", "_law_number", "_law_more"] S_l_unit := ok_l_unit T
  have G_l_word : FnD P w K mg base 2 T.d_l_word.f T.d_l_word.fd ["_law_cell", "_law_many"] S_l_word := ok_l_word T
  have G_l_into : FnD P w K mg base 3 T.d_l_into.f T.d_l_into.fd ["_law_cell", "_law_many", "_law_box"] S_l_into := ok_l_into T
  refine fnD_of T.d_l_row.F sc_l_row (len_l_row n) fun cdv A outer s H E hr => ⟨_, R_l_row n,
  (pdss_cons (pds_set (i := 2) nd rfl (Or.inl rfl) (pd_callK G_l_at (hr.mono (by omega)) rfl T.g_l_at T.d_l_at.F.kp T.d_l_at.b (pda_cons (pd_dget (Room_u1 hr) (pdv 0) pd_str (fun _ _ => rfl)) (pda_cons (pd_dget (Room_u1 hr) (pdv 0) pd_str (fun _ _ => rfl)) pda_nil))))
  (pdss_cons (pds_set (i := 3) nd rfl (Or.inl rfl) (pd_callK G_l_at (hr.mono (by omega)) rfl T.g_l_at T.d_l_at.F.kp T.d_l_at.b (pda_cons (pd_dget (Room_u1 hr) (pdv 0) pd_str (fun _ _ => rfl)) (pda_cons (pd_op (r := rAdd4 K) op_add4 sndo_add (pd_dget (Room_u1 hr) (pdv 0) pd_str (fun _ _ => rfl)) pd_int) pda_nil))))
  (pdss_cons (pds_set (i := 4) nd rfl (Or.inl rfl) (pd_callB (r := rLenS K) cr_len sndc_len rfl T.b_len PySem.boot_len (pda_cons (pd_dget (Room_u1 hr) (pdv 0) pd_str (fun _ _ => rfl)) pda_nil)))
  (pdss_cons (pds_dput (Room_u1 hr) (pdv 0) pd_str (pd_op (r := rAdd4 K) op_add4 sndo_add (pd_dget (Room_u1 hr) (pdv 0) pd_str (fun _ _ => rfl)) pd_int))
  (pdss_cons (pds_dput (Room_u1 hr) (pdv 0) pd_str (pd_op op_sub sndo_sub (pd_dget (Room_u1 hr) (pdv 0) pd_str (fun _ _ => rfl)) pd_int))
  (pdss_cons (pds_set (i := 5) nd rfl (Or.inl rfl) (pd_op op_mod sndo_mod (pdv 2) pd_int))
  (pdss_cons (pds_set (i := 6) nd rfl (Or.inl rfl) (pd_op op_mod sndo_mod (pd_op op_fdiv sndo_div (pdv 2) pd_int) (pdv 4)))
  (pdss_cons (pds_if (PDW.pt (pdw_or (pdt_cmp (r := rLt2 K) (op_lt2 (Room_u0 hr)) sndo_lt (pdv 5) pd_int (nomark _)) (pdw_or1 (PDW.pt (pdw_and (pdt_cmp (r := rEqD K) (op_eqD (Room_u64 hr)) sndo_eq (pdv 1) pd_int (nomark _)) (pdw_and1 (pdt_cmp op_gt sndo_gt (pdv 5) pd_int (nomark _))))))))
    (pdss_one (pds_ret (pd_tup (pda_cons pd_str (pda_cons (pdv 6) (pda_cons (pd_callK G_l_into (hr.mono (by omega)) rfl T.g_l_into T.d_l_into.F.kp T.d_l_into.b (pda_cons (pdv 3) (pda_cons (pdv 4) (pda_cons (pdv 6) pda_nil)))) pda_nil))))))
    pdss_nil)
  (pdss_cons (pds_if (pdt_cmp (r := rLt2 K) (op_lt2 (Room_u0 hr)) sndo_lt (pdv 5) pd_int (nomark _))
    (pdss_one (pds_ret (pd_tup (pda_cons pd_str (pda_cons (pd_callK G_l_word (hr.mono (by omega)) rfl T.g_l_word T.d_l_word.F.kp T.d_l_word.b (pda_cons (pdv 3) (pda_cons (pdv 4) pda_nil))) pda_nil)))))
    pdss_nil)
  (pdss_cons (pds_if (pdt_cmp (r := rLt2 K) (op_lt2 (Room_u0 hr)) sndo_lt (pdv 5) pd_int (nomark _))
    (pdss_cons (pds_set (i := 7) nd rfl (Or.inl rfl) (pd_callK G_l_rows (hr.mono (by omega)) rfl T.g_l_rows T.d_l_rows.F.kp T.d_l_rows.b (pda_cons (pdv 0) (pda_cons (pd_op op_sub sndo_sub (pdv 1) pd_int) (pda_cons (pd_op op_mod sndo_mod (pd_op op_fdiv sndo_div (pdv 2) pd_int) pd_int) pda_nil)))))
  (pdss_one (pds_ret (pd_tup (pda_cons pd_str (pda_cons (pd_callK G_l_word (hr.mono (by omega)) rfl T.g_l_word T.d_l_word.F.kp T.d_l_word.b (pda_cons (pdv 3) (pda_cons (pdv 4) pda_nil))) (pda_cons (pdv 7) (pda_cons (pd_callK G_l_rows (hr.mono (by omega)) rfl T.g_l_rows T.d_l_rows.F.kp T.d_l_rows.b (pda_cons (pdv 0) (pda_cons (pd_op op_sub sndo_sub (pdv 1) pd_int) (pda_cons (pd_op op_mod sndo_mod (pd_op op_fdiv sndo_div (pdv 2) pd_int) pd_int) pda_nil)))) pda_nil))))))))
    pdss_nil)
  (pdss_cons (pds_dput (Room_u1 hr) (pdv 0) pd_str (pd_op op_sub sndo_sub (pd_dget (Room_u1 hr) (pdv 0) pd_str (fun _ _ => rfl)) pd_int))
  (pdss_cons (pds_set (i := 8) nd rfl (Or.inl rfl) (pd_tup pda_nil))
  (pdss_cons (pds_for PassesOwn.never rfl (pdi_rng1 rfl T.b_range (pd_ix (r := rIx K) ix_seq sndo_ix (pd_frz (pl_lst (pda_cons pd_int (pda_cons pd_int (pda_cons pd_int (pda_cons pd_int (pda_cons pd_int pda_nil))))))) (pd_op op_mod sndo_mod (pd_op op_fdiv sndo_div (pdv 2) pd_int) pd_int) (fun _ _ => rfl))) (pdg_name (i := 9) nd rfl (Or.inl rfl))
    (pdss_cons (pds_set (i := 10) nd rfl (Or.inl rfl) (pd_callK G_l_at (hr.mono (by omega)) rfl T.g_l_at T.d_l_at.F.kp T.d_l_at.b (pda_cons (pd_dget (Room_u1 hr) (pdv 0) pd_str (fun _ _ => rfl)) (pda_cons (pd_op (r := rAdd4 K) op_add4 sndo_add (pd_op (r := rAdd4 K) op_add4 sndo_add (pd_dget (Room_u1 hr) (pdv 0) pd_str (fun _ _ => rfl)) pd_int) (pdv 9)) pda_nil))))
  (pdss_one (pds_set (i := 8) nd rfl (Or.inl rfl) (pd_op (r := rAdd4 K) op_add4 sndo_add (pdv 8) (pd_tup (pda_cons (pd_callK G_l_word (hr.mono (by omega)) rfl T.g_l_word T.d_l_word.F.kp T.d_l_word.b (pda_cons (pdv 10) (pda_cons (pdv 4) pda_nil))) pda_nil)))))))
  (pdss_cons (pds_set (i := 11) nd rfl (Or.inl rfl) (pd_tup (pda_cons (pd_tup (pda_cons pd_str (pda_cons (pdv 6) (pda_cons (pd_callK G_l_unit (hr.mono (by omega)) rfl T.g_l_unit T.d_l_unit.F.kp T.d_l_unit.b (pda_cons (pdv 4) (pda_cons (pdv 6) (pda_cons pd_int (pda_cons pd_int pda_nil))))) pda_nil)))) pda_nil)))
  (pdss_cons (pds_if (pdt_cmp (r := rEqD K) (op_eqD (Room_u64 hr)) sndo_eq (pd_op op_mod sndo_mod (pd_op op_fdiv sndo_div (pdv 2) pd_int) pd_int) pd_int (nomark _))
    (pdss_one (pds_set (i := 11) nd rfl (Or.inl rfl) (pd_tup pda_nil)))
    pdss_nil)
  (pdss_cons (pds_set (i := 11) nd rfl (Or.inl rfl) (pd_op (r := rAdd4 K) op_add4 sndo_add (pdv 11) (pd_callK G_l_rows (hr.mono (by omega)) rfl T.g_l_rows T.d_l_rows.F.kp T.d_l_rows.b (pda_cons (pdv 0) (pda_cons (pd_op op_sub sndo_sub (pdv 1) pd_int) (pda_cons (pd_op op_mod sndo_mod (pd_op op_fdiv sndo_div (pdv 2) pd_int) pd_int) pda_nil))))))
  (pdss_cons (pds_set (i := 12) nd rfl (Or.inl rfl) (pd_callK G_l_unit (hr.mono (by omega)) rfl T.g_l_unit T.d_l_unit.F.kp T.d_l_unit.b (pda_cons (pdv 4) (pda_cons (pdv 6) (pda_cons pd_int (pda_cons (pd_op op_sub sndo_sub pd_int (pd_ix (r := rIx K) ix_seq sndo_ix (pd_dget (Room_u1 hr) (pdv 0) pd_str (fun _ _ => rfl)) (pdv 6) (fun _ _ => rfl))) pda_nil))))))
  (pdss_cons (pds_if (pdt_cmp (r := rEqD K) (op_eqD (Room_u64 hr)) sndo_eq (pd_op op_mod sndo_mod (pd_op op_fdiv sndo_div (pdv 2) pd_int) pd_int) pd_int (nomark _))
    (pdss_one (pds_set (i := 12) nd rfl (Or.inl rfl) (pd_callK G_l_word (hr.mono (by omega)) rfl T.g_l_word T.d_l_word.F.kp T.d_l_word.b (pda_cons (pdv 3) (pda_cons (pdv 4) pda_nil)))))
    pdss_nil)
  (pdss_one (pds_ret (pd_tup (pda_cons pd_str (pda_cons (pdv 12) (pda_cons (pdv 8) (pda_cons (pdv 11) pda_nil))))))))))))))))))))))))), sem_l_row n⟩
theorem step_l_rows (T : Txt K mg) (n k : Nat) (hk : 3 ≤ k) (G_l_row : FnD P w K mg base k T.d_l_row.f T.d_l_row.fd ["_law_state", "_law_deep"] (S_l_row n)) : FnD P w K mg base (k + 1) T.d_l_rows.f T.d_l_rows.fd ["_law_state", "_law_deep", "_law_most"] (S_l_rows n) := by
  have nd := sc_l_rows.nd
  refine fnD_of T.d_l_rows.F sc_l_rows (len_l_rows n) fun cdv A outer s H E hr => ⟨_, R_l_rows n,
  (pdss_cons (pds_set (i := 3) nd rfl (Or.inl rfl) (pd_tup pda_nil))
  (pdss_cons (pds_for PassesOwn.never rfl (pdi_rng1 rfl T.b_range (pdv 2)) (pdg_name (i := 4) nd rfl (Or.inl rfl))
    (pdss_one (pds_if (pdt_cmp op_gt sndo_gt (pd_dget (Room_u1 hr) (pdv 0) pd_str (fun _ _ => rfl)) pd_int (nomark _))
    (pdss_one (pds_set (i := 3) nd rfl (Or.inl rfl) (pd_op (r := rAdd4 K) op_add4 sndo_add (pdv 3) (pd_tup (pda_cons (pd_callK G_l_row (hr.mono (by omega)) rfl T.g_l_row T.d_l_row.F.kp T.d_l_row.b (pda_cons (pdv 0) (pda_cons (pdv 1) pda_nil))) pda_nil)))))
    pdss_nil)))
  (pdss_one (pds_ret (pdv 3))))), sem_l_rows n⟩
theorem okm_l_row (T : Txt K mg) : ∀ n : Nat, FnD P w K mg base (2 * n + 4) T.d_l_row.f T.d_l_row.fd ["_law_state", "_law_deep"] (S_l_row n) ∧ FnD P w K mg base (2 * n + 5) T.d_l_rows.f T.d_l_rows.fd ["_law_state", "_law_deep", "_law_most"] (S_l_rows n)
  | 0 => by
    have x := step_l_row (P := P) (w := w) (base := base) T 0 3 (Nat.le_refl _) (fnD_never (k := 2) T.d_l_rows.F sc_l_rows)
    exact ⟨x, step_l_rows T 0 4 (by decide) x⟩
  | n + 1 => by
    have ih := okm_l_row T n
    have x := step_l_row T (n + 1) (2 * n + 5) (by omega) ih.2
    have y := step_l_rows T (n + 1) (2 * n + 5 + 1) (by omega) x
    rw [show 2 * (n + 1) + 4 = 2 * n + 5 + 1 from by omega, show 2 * (n + 1) + 5 = 2 * n + 5 + 1 + 1 from by omega]
    exact ⟨x, y⟩
theorem ok_l_program (T : Txt K mg) : FnD P w K mg base 12 T.d_l_program.f T.d_l_program.fd ["_law_script", "_law_most"] S_l_program := by
  have nd := sc_l_program.nd
  have G_l_tops : FnD P w K mg base 2 T.d_l_tops.f T.d_l_tops.fd ["_law_script"] S_l_tops := ok_l_tops T
  have G_l_rows : FnD P w K mg base 11 T.d_l_rows.f T.d_l_rows.fd ["_law_state", "_law_deep", "_law_most"] (S_l_rows 3) := (okm_l_row T 3).2
  have G_l_at : FnD P w K mg base 1 T.d_l_at.f T.d_l_at.fd ["_law_script", "_law_k"] S_l_at := ok_l_at T
  refine fnD_pure T.d_l_program.F sc_l_program (len_l_program) fun cdv A outer s H E hr => ⟨_, R_l_program,
  (pdss_cons (pds_set (i := 2) nd rfl (Or.inl rfl) (pd_callK G_l_tops (hr.mono (by omega)) rfl T.g_l_tops T.d_l_tops.F.kp T.d_l_tops.b (pda_cons (pdv 0) pda_nil)))
  (pdss_cons (pds_set (i := 3) nd rfl (Or.inl rfl) (pd_disp (pdps_cons (pdv 0) (pdps_cons pd_int (pdps_cons (pdv 1) (pdps_cons (pdv 2) pdps_nil)))) rfl rfl (fun z => by cases z) (by decide) (by decide) (by decide +kernel)))
  (pdss_one (pds_ret (pd_tup (pda_cons (pdv 2) (pda_cons (pd_callK G_l_rows (hr.mono (by omega)) rfl T.g_l_rows T.d_l_rows.F.kp T.d_l_rows.b (pda_cons (pdv 3) (pda_cons pd_int (pda_cons (pd_op op_mod sndo_mod (pd_callK G_l_at (hr.mono (by omega)) rfl T.g_l_at T.d_l_at.F.kp T.d_l_at.b (pda_cons (pdv 0) (pda_cons pd_int pda_nil))) (pd_op (r := rAdd4 K) op_add4 sndo_add (pdv 1) pd_int)) pda_nil)))) pda_nil))))))), sem_l_program⟩
theorem ok_is_among (T : Txt K mg) : FnD P w K mg base 1 T.d_is_among.f T.d_is_among.fd ["thing", "least", "most"] S_is_among := by
  have nd := sc_is_among.nd
  refine fnD_pure T.d_is_among.F sc_is_among (len_is_among) fun cdv A outer s H E hr => ⟨_, R_is_among,
  (pdss_one (pds_ret (pd_and (pd_isiK (K := K) .int "int" kit_int rfl T.b_isinstance PyProof.Rows.boot_isinstance (pdv 0) rfl T.b_int PyProof.Rows.boot_int) (pd_and (pd_not (pd_isiK (K := K) .bl "bool" kit_bl rfl T.b_isinstance PyProof.Rows.boot_isinstance (pdv 0) rfl T.b_bool PyProof.Rows.boot_bool)) (pd_one (pd_chain op_le sndo_le op_le sndo_le (pdv 1) (pdv 0) (pdv 2))))))), sem_is_among⟩
theorem ok_are_tops (T : Txt K mg) : FnD P w K mg base 2 T.d_are_tops.f T.d_are_tops.fd ["thing"] S_are_tops := by
  have nd := sc_are_tops.nd
  have G_is_among : FnD P w K mg base 1 T.d_is_among.f T.d_is_among.fd ["thing", "least", "most"] S_is_among := ok_is_among T
  refine fnD_pure T.d_are_tops.F sc_are_tops (len_are_tops) fun cdv A outer s H E hr => ⟨_, R_are_tops,
  (pdss_cons (pds_if (PDW.pt (pdw_or (pdt_not (pdt_val (pd_isiK (K := K) .lst "list" kit_lst rfl T.b_isinstance PyProof.Rows.boot_isinstance (pdv 0) rfl T.b_list PyProof.Rows.boot_list))) (pdw_or1 (pdt_not (pdt_chain op_le sndo_le op_le sndo_le pd_int (pd_callB (r := rLenS K) cr_len sndc_len rfl T.b_len PySem.boot_len (pda_cons (pdv 0) pda_nil)) (pd_gint rfl T.c_MOST_BOXES))))))
    (pdss_one (pds_ret pd_bl))
    pdss_nil)
  (pdss_cons (pds_for PassesOwn.never rfl (pdi_listK (K := K) (pdv 0)) (pdg_name (i := 1) nd rfl (Or.inl rfl))
    (pdss_one (pds_if (pdt_not (pdt_val (pd_callK G_is_among (hr.mono (by omega)) rfl T.g_is_among T.d_is_among.F.kp T.d_is_among.b (pda_cons (pdv 1) (pda_cons pd_int (pda_cons (pd_gint rfl T.c_MOST_TOP) pda_nil))))))
    (pdss_one (pds_ret pd_bl))
    pdss_nil)))
  (pdss_one (pds_ret pd_bl)))), sem_are_tops⟩
theorem ok_is_sum (T : Txt K mg) : FnD P w K mg base 2 T.d_is_sum.f T.d_is_sum.fd ["thing", "many"] S_is_sum := by
  have nd := sc_is_sum.nd
  have G_is_among : FnD P w K mg base 1 T.d_is_among.f T.d_is_among.fd ["thing", "least", "most"] S_is_among := ok_is_among T
  refine fnD_pure T.d_is_sum.F sc_is_sum (len_is_sum) fun cdv A outer s H E hr => ⟨_, R_is_sum,
  (pdss_cons (pds_if (PDW.pt (pdw_or (pdt_not (pdt_val (pd_isiK (K := K) .tup "tuple" kit_tup rfl T.b_isinstance PyProof.Rows.boot_isinstance (pdv 0) rfl T.b_tuple PyProof.Rows.boot_tuple))) (pdw_or (pdt_cmp (r := rNeD K) (op_neD (Room_u64 hr)) sndo_ne (pd_callB (r := rLenS K) cr_len sndc_len rfl T.b_len PySem.boot_len (pda_cons (pdv 0) pda_nil)) pd_int (nomark _)) (pdw_or1 (pdt_not (pdt_val (pd_isiK (K := K) .tup "tuple" kit_tup rfl T.b_isinstance PyProof.Rows.boot_isinstance (pd_ix (r := rIx K) ix_seq sndo_ix (pdv 0) pd_int (fun _ _ => rfl)) rfl T.b_tuple PyProof.Rows.boot_tuple)))))))
    (pdss_one (pds_ret pd_bl))
    pdss_nil)
  (pdss_cons (pds_if (PDW.pt (pdw_or (pdt_cmp (r := rNeD K) (op_neD (Room_u64 hr)) sndo_ne (pd_callB (r := rLenS K) cr_len sndc_len rfl T.b_len PySem.boot_len (pda_cons (pd_ix (r := rIx K) ix_seq sndo_ix (pdv 0) pd_int (fun _ _ => rfl)) pda_nil)) (pdv 1) (nomark _)) (pdw_or1 (pdt_not (pdt_val (pd_callK G_is_among (hr.mono (by omega)) rfl T.g_is_among T.d_is_among.F.kp T.d_is_among.b (pda_cons (pd_ix (r := rIx K) ix_seq sndo_ix (pdv 0) pd_int (fun _ _ => rfl)) (pda_cons (pd_neg (pd_gint rfl T.c_MOST_MORE)) (pda_cons (pd_gint rfl T.c_MOST_MORE) pda_nil)))))))))
    (pdss_one (pds_ret pd_bl))
    pdss_nil)
  (pdss_cons (pds_for PassesOwn.never rfl (pdi_tupK (K := K) (pd_ix (r := rIx K) ix_seq sndo_ix (pdv 0) pd_int (fun _ _ => rfl))) (pdg_name (i := 2) nd rfl (Or.inl rfl))
    (pdss_one (pds_if (pdt_not (pdt_val (pd_callK G_is_among (hr.mono (by omega)) rfl T.g_is_among T.d_is_among.F.kp T.d_is_among.b (pda_cons (pdv 2) (pda_cons (pd_neg (pd_gint rfl T.c_MOST_NUMBER)) (pda_cons (pd_gint rfl T.c_MOST_NUMBER) pda_nil))))))
    (pdss_one (pds_ret pd_bl))
    pdss_nil)))
  (pdss_one (pds_ret pd_bl))))), sem_is_sum⟩
theorem ok_are_words (T : Txt K mg) : FnD P w K mg base 3 T.d_are_words.f T.d_are_words.fd ["thing", "many"] S_are_words := by
  have nd := sc_are_words.nd
  have G_is_sum : FnD P w K mg base 2 T.d_is_sum.f T.d_is_sum.fd ["thing", "many"] S_is_sum := ok_is_sum T
  refine fnD_pure T.d_are_words.F sc_are_words (len_are_words) fun cdv A outer s H E hr => ⟨_, R_are_words,
  (pdss_cons (pds_if (PDW.pt (pdw_or (pdt_not (pdt_val (pd_isiK (K := K) .tup "tuple" kit_tup rfl T.b_isinstance PyProof.Rows.boot_isinstance (pdv 0) rfl T.b_tuple PyProof.Rows.boot_tuple))) (pdw_or1 (pdt_cmp op_gt sndo_gt (pd_callB (r := rLenS K) cr_len sndc_len rfl T.b_len PySem.boot_len (pda_cons (pdv 0) pda_nil)) (pd_gint rfl T.c_MOST_WORDS) (nomark _)))))
    (pdss_one (pds_ret pd_bl))
    pdss_nil)
  (pdss_cons (pds_for PassesOwn.never rfl (pdi_tupK (K := K) (pdv 0)) (pdg_name (i := 2) nd rfl (Or.inl rfl))
    (pdss_one (pds_if (pdt_not (pdt_val (pd_callK G_is_sum (hr.mono (by omega)) rfl T.g_is_sum T.d_is_sum.F.kp T.d_is_sum.b (pda_cons (pdv 2) (pda_cons (pdv 1) pda_nil)))))
    (pdss_one (pds_ret pd_bl))
    pdss_nil)))
  (pdss_one (pds_ret pd_bl)))), sem_are_words⟩
theorem step_is_row (T : Txt K mg) (n k : Nat) (hk : 3 ≤ k) (G_are_rows : FnD P w K mg base k T.d_are_rows.f T.d_are_rows.fd ["thing", "many", "deep"] (S_are_rowsP n)) : FnD P w K mg base (k + 1) T.d_is_row.f T.d_is_row.fd ["thing", "many", "deep"] (S_is_row n) := by
  have nd := sc_is_row.nd
  have G_are_words : FnD P w K mg base 3 T.d_are_words.f T.d_are_words.fd ["thing", "many"] S_are_words := ok_are_words T
  have G_is_among : FnD P w K mg base 1 T.d_is_among.f T.d_is_among.fd ["thing", "least", "most"] S_is_among := ok_is_among T
  have G_is_sum : FnD P w K mg base 2 T.d_is_sum.f T.d_is_sum.fd ["thing", "many"] S_is_sum := ok_is_sum T
  refine fnD_pure T.d_is_row.F sc_is_row (len_is_row n) fun cdv A outer s H E hr => ⟨_, R_is_row n,
  (pdss_cons (pds_if (PDW.pt (pdw_or (pdt_not (pdt_val (pd_isiK (K := K) .tup "tuple" kit_tup rfl T.b_isinstance PyProof.Rows.boot_isinstance (pdv 0) rfl T.b_tuple PyProof.Rows.boot_tuple))) (pdw_or1 (pdt_cmp (r := rLt2 K) (op_lt2 (Room_u0 hr)) sndo_lt (pd_callB (r := rLenS K) cr_len sndc_len rfl T.b_len PySem.boot_len (pda_cons (pdv 0) pda_nil)) pd_int (nomark _)))))
    (pdss_one (pds_ret pd_bl))
    pdss_nil)
  (pdss_cons (pds_if (pdt_cmp (r := rEqTag K) (op_eqTag (Room_u64 hr) (Room_u0 hr)) sndo_eqTag (pd_ix (r := rIx K) ix_seq sndo_ix (pdv 0) pd_int (fun _ _ => rfl)) pd_str (nomark _))
    (pdss_one (pds_ret (pd_and (pd_cmp (r := rEqD K) (op_eqD (Room_u64 hr)) sndo_eq (pd_callB (r := rLenS K) cr_len sndc_len rfl T.b_len PySem.boot_len (pda_cons (pdv 0) pda_nil)) pd_int (nomark _)) (pd_and (pd_callK G_is_among (hr.mono (by omega)) rfl T.g_is_among T.d_is_among.F.kp T.d_is_among.b (pda_cons (pd_ix (r := rIx K) ix_seq sndo_ix (pdv 0) pd_int (fun _ _ => rfl)) (pda_cons pd_int (pda_cons (pd_op op_sub sndo_sub (pdv 1) pd_int) pda_nil)))) (pd_one (pd_callK G_is_sum (hr.mono (by omega)) rfl T.g_is_sum T.d_is_sum.F.kp T.d_is_sum.b (pda_cons (pd_ix (r := rIx K) ix_seq sndo_ix (pdv 0) pd_int (fun _ _ => rfl)) (pda_cons (pdv 1) pda_nil))))))))
    pdss_nil)
  (pdss_cons (pds_if (pdt_cmp (r := rEqTag K) (op_eqTag (Room_u64 hr) (Room_u0 hr)) sndo_eqTag (pd_ix (r := rIx K) ix_seq sndo_ix (pdv 0) pd_int (fun _ _ => rfl)) pd_str (nomark _))
    (pdss_one (pds_ret (pd_and (pd_cmp (r := rEqD K) (op_eqD (Room_u64 hr)) sndo_eq (pd_callB (r := rLenS K) cr_len sndc_len rfl T.b_len PySem.boot_len (pda_cons (pdv 0) pda_nil)) pd_int (nomark _)) (pd_one (pd_callK G_is_sum (hr.mono (by omega)) rfl T.g_is_sum T.d_is_sum.F.kp T.d_is_sum.b (pda_cons (pd_ix (r := rIx K) ix_seq sndo_ix (pdv 0) pd_int (fun _ _ => rfl)) (pda_cons (pdv 1) pda_nil)))))))
    pdss_nil)
  (pdss_cons (pds_if (PDW.pt (pdw_or (pdt_cmp (r := rNeD K) (op_neD (Room_u64 hr)) sndo_ne (pd_callB (r := rLenS K) cr_len sndc_len rfl T.b_len PySem.boot_len (pda_cons (pdv 0) pda_nil)) pd_int (nomark _)) (pdw_or (pdt_cmp (r := rEqD K) (op_eqD (Room_u64 hr)) sndo_eq (pdv 2) pd_int (nomark _)) (pdw_or1 (pdt_not (pdt_val (pd_callK G_is_sum (hr.mono (by omega)) rfl T.g_is_sum T.d_is_sum.F.kp T.d_is_sum.b (pda_cons (pd_ix (r := rIx K) ix_seq sndo_ix (pdv 0) pd_int (fun _ _ => rfl)) (pda_cons (pdv 1) pda_nil)))))))))
    (pdss_one (pds_ret pd_bl))
    pdss_nil)
  (pdss_cons (pds_if (pdt_cmp (r := rEqTag K) (op_eqTag (Room_u64 hr) (Room_u0 hr)) sndo_eqTag (pd_ix (r := rIx K) ix_seq sndo_ix (pdv 0) pd_int (fun _ _ => rfl)) pd_str (nomark _))
    (pdss_one (pds_ret (pd_and (pd_callK G_are_rows (hr.mono (by omega)) rfl T.g_are_rows T.d_are_rows.F.kp T.d_are_rows.b (pda_cons (pd_ix (r := rIx K) ix_seq sndo_ix (pdv 0) pd_int (fun _ _ => rfl)) (pda_cons (pdv 1) (pda_cons (pd_op op_sub sndo_sub (pdv 2) pd_int) pda_nil)))) (pd_one (pd_callK G_are_rows (hr.mono (by omega)) rfl T.g_are_rows T.d_are_rows.F.kp T.d_are_rows.b (pda_cons (pd_ix (r := rIx K) ix_seq sndo_ix (pdv 0) pd_int (fun _ _ => rfl)) (pda_cons (pdv 1) (pda_cons (pd_op op_sub sndo_sub (pdv 2) pd_int) pda_nil))))))))
    pdss_nil)
  (pdss_one (pds_ret (pd_and (pd_cmp (r := rEqTag K) (op_eqTag (Room_u64 hr) (Room_u0 hr)) sndo_eqTag (pd_ix (r := rIx K) ix_seq sndo_ix (pdv 0) pd_int (fun _ _ => rfl)) pd_str (nomark _)) (pd_and (pd_callK G_are_words (hr.mono (by omega)) rfl T.g_are_words T.d_are_words.F.kp T.d_are_words.b (pda_cons (pd_ix (r := rIx K) ix_seq sndo_ix (pdv 0) pd_int (fun _ _ => rfl)) (pda_cons (pdv 1) pda_nil))) (pd_one (pd_callK G_are_rows (hr.mono (by omega)) rfl T.g_are_rows T.d_are_rows.F.kp T.d_are_rows.b (pda_cons (pd_ix (r := rIx K) ix_seq sndo_ix (pdv 0) pd_int (fun _ _ => rfl)) (pda_cons (pdv 1) (pda_cons (pd_op op_sub sndo_sub (pdv 2) pd_int) pda_nil)))))))))))))), sem_is_row n⟩
theorem step_are_rows (T : Txt K mg) (n k : Nat) (hk : 3 ≤ k) (G_is_row : FnD P w K mg base k T.d_is_row.f T.d_is_row.fd ["thing", "many", "deep"] (S_is_row n)) : FnD P w K mg base (k + 1) T.d_are_rows.f T.d_are_rows.fd ["thing", "many", "deep"] (S_are_rows n) := by
  have nd := sc_are_rows.nd
  refine fnD_pure T.d_are_rows.F sc_are_rows (len_are_rows n) fun cdv A outer s H E hr => ⟨_, R_are_rows n,
  (pdss_cons (pds_if (pdt_not (pdt_val (pd_isiK (K := K) .tup "tuple" kit_tup rfl T.b_isinstance PyProof.Rows.boot_isinstance (pdv 0) rfl T.b_tuple PyProof.Rows.boot_tuple)))
    (pdss_one (pds_ret pd_bl))
    pdss_nil)
  (pdss_cons (pds_for PassesOwn.never rfl (pdi_tupK (K := K) (pdv 0)) (pdg_name (i := 3) nd rfl (Or.inl rfl))
    (pdss_one (pds_if (pdt_not (pdt_val (pd_callK G_is_row (hr.mono (by omega)) rfl T.g_is_row T.d_is_row.F.kp T.d_is_row.b (pda_cons (pdv 3) (pda_cons (pdv 1) (pda_cons (pdv 2) pda_nil))))))
    (pdss_one (pds_ret pd_bl))
    pdss_nil)))
  (pdss_one (pds_ret pd_bl)))), sem_are_rows n⟩
theorem okm_is_row (T : Txt K mg) : ∀ n : Nat, FnD P w K mg base (2 * n + 4) T.d_is_row.f T.d_is_row.fd ["thing", "many", "deep"] (S_is_row n) ∧ FnD P w K mg base (2 * n + 5) T.d_are_rows.f T.d_are_rows.fd ["thing", "many", "deep"] (S_are_rows n)
  | 0 => by
    have x := step_is_row (P := P) (w := w) (base := base) T 0 3 (Nat.le_refl _) (fnD_never (k := 2) T.d_are_rows.F sc_are_rows)
    exact ⟨x, step_are_rows T 0 4 (by decide) x⟩
  | n + 1 => by
    have ih := okm_is_row T n
    have x := step_is_row T (n + 1) (2 * n + 5) (by omega) ih.2
    have y := step_are_rows T (n + 1) (2 * n + 5 + 1) (by omega) x
    rw [show 2 * (n + 1) + 4 = 2 * n + 5 + 1 from by omega, show 2 * (n + 1) + 5 = 2 * n + 5 + 1 + 1 from by omega]
    exact ⟨x, y⟩
theorem ok_inner_rows (T : Txt K mg) : FnD P w K mg base 1 T.d_inner_rows.f T.d_inner_rows.fd ["row"] S_inner_rows := by
  have nd := sc_inner_rows.nd
  refine fnD_pure T.d_inner_rows.F sc_inner_rows (len_inner_rows) fun cdv A outer s H E hr => ⟨_, R_inner_rows,
  (pdss_cons (pds_if (pdt_cmp (r := rEqD K) (op_eqD (Room_u64 hr)) sndo_eq (pd_ix (r := rIx K) ix_seq sndo_ix (pdv 0) pd_int (fun _ _ => rfl)) pd_str (nomark _))
    (pdss_one (pds_ret (pd_frz (pl_lst (pda_cons (pd_ix (r := rIx K) ix_seq sndo_ix (pdv 0) pd_int (fun _ _ => rfl)) (pda_cons (pd_ix (r := rIx K) ix_seq sndo_ix (pdv 0) pd_int (fun _ _ => rfl)) pda_nil))))))
    pdss_nil)
  (pdss_cons (pds_if (pdt_cmp (r := rEqD K) (op_eqD (Room_u64 hr)) sndo_eq (pd_ix (r := rIx K) ix_seq sndo_ix (pdv 0) pd_int (fun _ _ => rfl)) pd_str (nomark _))
    (pdss_one (pds_ret (pd_frz (pl_lst (pda_cons (pd_ix (r := rIx K) ix_seq sndo_ix (pdv 0) pd_int (fun _ _ => rfl)) pda_nil)))))
    pdss_nil)
  (pdss_one (pds_ret (pd_frz (pl_lst pda_nil)))))), sem_inner_rows⟩
theorem ok_count (T : Txt K mg) : ∀ n : Nat, FnD P w K mg base (n + 1) T.d_count.f T.d_count.fd ["rows"] (S_count n)
  | 0 => fnD_never T.d_count.F sc_count
  | n + 1 => by
    have nd := sc_count.nd
    have G_count := ok_count T n
    have G_inner_rows : FnD P w K mg base 1 T.d_inner_rows.f T.d_inner_rows.fd ["row"] S_inner_rows := ok_inner_rows T
    refine fnD_pure T.d_count.F sc_count (len_count n) fun cdv A outer s H E hr => ⟨_, R_count n,
  (pdss_cons (pds_set (i := 1) nd rfl (Or.inl rfl) (pd_callB (r := rLenS K) cr_len sndc_len rfl T.b_len PySem.boot_len (pda_cons (pdv 0) pda_nil)))
  (pdss_cons (pds_for PassesOwn.never rfl (pdi_tupK (K := K) (pdv 0)) (pdg_name (i := 2) nd rfl (Or.inl rfl))
    (pdss_one (pds_for PassesOwn.never rfl (pdi_listK (K := K) (pd_callK G_inner_rows (hr.mono (by omega)) rfl T.g_inner_rows T.d_inner_rows.F.kp T.d_inner_rows.b (pda_cons (pdv 2) pda_nil))) (pdg_name (i := 3) nd rfl (Or.inl rfl))
    (pdss_one (pds_set (i := 1) nd rfl (Or.inl rfl) (pd_op (r := rAdd4 K) op_add4 sndo_add (pdv 1) (pd_callK G_count (hr.mono (by omega)) rfl T.g_count T.d_count.F.kp T.d_count.b (pda_cons (pdv 3) pda_nil))))))))
  (pdss_one (pds_ret (pdv 1))))), sem_count n⟩
theorem ok_Program_initX (T : Txt K mg) : FnX P w K mg base 12 T.d_Program_init.f T.d_Program_init.fd ["self", "tops", "rows"] (S_Program_initX T.aProgram T.aBadProgram) := by
  have nd := sc_Program_init.nd
  have G_are_tops : FnD P w K mg base 2 T.d_are_tops.f T.d_are_tops.fd ["thing"] S_are_tops := ok_are_tops T
  have G_are_rows : FnD P w K mg base 11 T.d_are_rows.f T.d_are_rows.fd ["thing", "many", "deep"] (S_are_rows 3) := (okm_is_row T 3).2
  have G_count : FnD P w K mg base 5 T.d_count.f T.d_count.fd ["rows"] (S_count 4) := ok_count T 4
  exact fnX_of T.d_Program_init.F sc_Program_init (len_Program_initX T.aProgram T.aBadProgram) fun cdv A outer s H E hr => ⟨_, R_Program_initX T.aProgram T.aBadProgram,
  (pdxs_cons (pdx_if (PDW.pt (pdw_or (pdt_not (pdt_val (pd_callK G_are_tops (hr.mono (by omega)) rfl T.g_are_tops T.d_are_tops.F.kp T.d_are_tops.b (pda_cons (pdv 1) pda_nil)))) (pdw_or (pdt_not (pdt_val (pd_callK G_are_rows (hr.mono (by omega)) rfl T.g_are_rows T.d_are_rows.F.kp T.d_are_rows.b (pda_cons (pdv 2) (pda_cons (pd_callB (r := rLenS K) cr_len sndc_len rfl T.b_len PySem.boot_len (pda_cons (pdv 1) pda_nil)) (pda_cons (pd_gint rfl T.c_MOST_DEEP) pda_nil)))))) (pdw_or1 (pdt_cmp op_gt sndo_gt (pd_callK G_count (hr.mono (by omega)) rfl T.g_count T.d_count.F.kp T.d_count.b (pda_cons (pdv 2) pda_nil)) (pd_gint rfl T.c_MOST_ROWS) (nomark _))))))
    (pdxs_one (pdx_raise rfl (takes_of rfl rfl rfl rfl) (pmk_own PySem.F.excBase_ValueError T.xBadProgram.ex T.c_BadProgram T.xBadProgram.kp (raises_own T.xBadProgram.sub T.xBadProgram.ty) rfl)))
    pdxs_nil)
  (pdxs_cons (pdx_of (pds_fld (pdv 0) (pd_frz (pl_listK (K := K) rfl T.b_list PyProof.Rows.boot_list (pdv 1))) T.clProgram T.naProgram_tops))
  (pdxs_one (pdx_of (pds_fld (pdv 0) (pdv 2) T.clProgram T.naProgram_rows))))), sem_Program_initX T.aProgram T.aBadProgram⟩
theorem ok_Program_init (T : Txt K mg) : FnD P w K mg base 12 T.d_Program_init.f T.d_Program_init.fd ["self", "tops", "rows"] (S_Program_init T.aProgram) := by
  have nd := sc_Program_init.nd
  have G_are_tops : FnD P w K mg base 2 T.d_are_tops.f T.d_are_tops.fd ["thing"] S_are_tops := ok_are_tops T
  have G_are_rows : FnD P w K mg base 11 T.d_are_rows.f T.d_are_rows.fd ["thing", "many", "deep"] (S_are_rows 3) := (okm_is_row T 3).2
  have G_count : FnD P w K mg base 5 T.d_count.f T.d_count.fd ["rows"] (S_count 4) := ok_count T 4
  refine fnD_of T.d_Program_init.F sc_Program_init (len_Program_init T.aProgram) fun cdv A outer s H E hr => ⟨_, (R_Program_init T.aProgram),
  (pdss_cons (pds_if (PDW.pt (pdw_or (pdt_not (pdt_val (pd_callK G_are_tops (hr.mono (by omega)) rfl T.g_are_tops T.d_are_tops.F.kp T.d_are_tops.b (pda_cons (pdv 1) pda_nil)))) (pdw_or (pdt_not (pdt_val (pd_callK G_are_rows (hr.mono (by omega)) rfl T.g_are_rows T.d_are_rows.F.kp T.d_are_rows.b (pda_cons (pdv 2) (pda_cons (pd_callB (r := rLenS K) cr_len sndc_len rfl T.b_len PySem.boot_len (pda_cons (pdv 1) pda_nil)) (pda_cons (pd_gint rfl T.c_MOST_DEEP) pda_nil)))))) (pdw_or1 (pdt_cmp op_gt sndo_gt (pd_callK G_count (hr.mono (by omega)) rfl T.g_count T.d_count.F.kp T.d_count.b (pda_cons (pdv 2) pda_nil)) (pd_gint rfl T.c_MOST_ROWS) (nomark _))))))
    (pdss_one pds_never)
    pdss_nil)
  (pdss_cons (pds_fld (pdv 0) (pd_frz (pl_listK (K := K) rfl T.b_list PyProof.Rows.boot_list (pdv 1))) T.clProgram T.naProgram_tops)
  (pdss_one (pds_fld (pdv 0) (pdv 2) T.clProgram T.naProgram_rows)))), sem_Program_init T.aProgram⟩
theorem ok_l_places (T : Txt K mg) : ∀ n : Nat, FnD P w K mg base (n + 1) T.d_l_places.f T.d_l_places.fd ["_law_rows_here", "_law_ahead"] (S_l_places n)
  | 0 => fnD_never T.d_l_places.F sc_l_places
  | n + 1 => by
    have nd := sc_l_places.nd
    have G_l_places := ok_l_places T n
    refine fnD_pure T.d_l_places.F sc_l_places (len_l_places n) fun cdv A outer s H E hr => ⟨_, R_l_places n,
  (pdss_cons (pds_set (i := 2) nd rfl (Or.inl rfl) (pd_new (pl_lst pda_nil)))
  (pdss_cons (pds_for PassesOwn.never rfl (pdi_rng1 rfl T.b_range (pd_callB (r := rLenS K) cr_len sndc_len rfl T.b_len PySem.boot_len (pda_cons (pdv 0) pda_nil))) (pdg_name (i := 3) nd rfl (Or.inl rfl))
    (pdss_cons (pds_set (i := 4) nd rfl (Or.inl rfl) (pd_op (r := rAdd4 K) op_add4 sndo_add (pdv 1) (pd_tup (pda_cons (pdv 3) pda_nil))))
  (pdss_cons (pds_expr (pd_append (pdv 2) (pd_tup (pda_cons (pdv 4) (pda_cons (pd_ix (r := rIx K) ix_seq sndo_ix (pdv 0) (pdv 3) (fun _ _ => rfl)) pda_nil)))))
  (pdss_cons (pds_if (pdt_cmp (r := rEqD K) (op_eqD (Room_u64 hr)) sndo_eq (pd_ix (r := rIx K) ix_seq sndo_ix (pd_ix (r := rIx K) ix_seq sndo_ix (pdv 0) (pdv 3) (fun _ _ => rfl)) pd_int (fun _ _ => rfl)) pd_str (nomark _))
    (pdss_one (pds_set (i := 2) nd rfl (Or.inl rfl) (pd_new (pl_cat (pd_op (r := rAdd4 K) op_add4 sndo_add (pdv 2) (pd_callK G_l_places (hr.mono (by omega)) rfl T.g_l_places T.d_l_places.F.kp T.d_l_places.b (pda_cons (pd_ix (r := rIx K) ix_seq sndo_ix (pd_ix (r := rIx K) ix_seq sndo_ix (pdv 0) (pdv 3) (fun _ _ => rfl)) pd_int (fun _ _ => rfl)) (pda_cons (pd_op (r := rAdd4 K) op_add4 sndo_add (pdv 4) (pd_tup (pda_cons pd_int pda_nil))) pda_nil)))) (pd_callK G_l_places (hr.mono (by omega)) rfl T.g_l_places T.d_l_places.F.kp T.d_l_places.b (pda_cons (pd_ix (r := rIx K) ix_seq sndo_ix (pd_ix (r := rIx K) ix_seq sndo_ix (pdv 0) (pdv 3) (fun _ _ => rfl)) pd_int (fun _ _ => rfl)) (pda_cons (pd_op (r := rAdd4 K) op_add4 sndo_add (pdv 4) (pd_tup (pda_cons pd_int pda_nil))) pda_nil)))))))
    pdss_nil)
  (pdss_one (pds_if (pdt_cmp (r := rEqD K) (op_eqD (Room_u64 hr)) sndo_eq (pd_ix (r := rIx K) ix_seq sndo_ix (pd_ix (r := rIx K) ix_seq sndo_ix (pdv 0) (pdv 3) (fun _ _ => rfl)) pd_int (fun _ _ => rfl)) pd_str (nomark _))
    (pdss_one (pds_set (i := 2) nd rfl (Or.inl rfl) (pd_new (pl_cat (pdv 2) (pd_callK G_l_places (hr.mono (by omega)) rfl T.g_l_places T.d_l_places.F.kp T.d_l_places.b (pda_cons (pd_ix (r := rIx K) ix_seq sndo_ix (pd_ix (r := rIx K) ix_seq sndo_ix (pdv 0) (pdv 3) (fun _ _ => rfl)) pd_int (fun _ _ => rfl)) (pda_cons (pd_op (r := rAdd4 K) op_add4 sndo_add (pdv 4) (pd_tup (pda_cons pd_int pda_nil))) pda_nil)))))))
    pdss_nil))))))
  (pdss_one (pds_ret (pdv 2))))), sem_l_places n⟩
theorem ok_l_changed (T : Txt K mg) : ∀ n : Nat, FnD P w K mg base (n + 1) T.d_l_changed.f T.d_l_changed.fd ["_law_rows_here", "_law_place", "_law_row_here"] (S_l_changed n)
  | 0 => fnD_never T.d_l_changed.F sc_l_changed
  | n + 1 => by
    have nd := sc_l_changed.nd
    have G_l_changed := ok_l_changed T n
    refine fnD_of T.d_l_changed.F sc_l_changed (len_l_changed n) fun cdv A outer s H E hr => ⟨_, R_l_changed n,
  (pdss_cons (pds_set (i := 3) nd rfl (Or.inl rfl) (pd_ix (r := rIx K) ix_seq sndo_ix (pdv 1) pd_int (fun _ _ => rfl)))
  (pdss_cons (pds_if (pdt_cmp op_gt sndo_gt (pd_callB (r := rLenS K) cr_len sndc_len rfl T.b_len PySem.boot_len (pda_cons (pdv 1) pda_nil)) pd_int (nomark _))
    (pdss_cons (pds_set (i := 4) nd rfl (Or.inl rfl) (pd_new (pl_listK (K := K) rfl T.b_list PyProof.Rows.boot_list (pd_ix (r := rIx K) ix_seq sndo_ix (pdv 0) (pdv 3) (fun _ _ => rfl)))))
  (pdss_cons (pds_set (i := 5) nd rfl (Or.inl rfl) (pd_ix (r := rIx K) ix_seq sndo_ix (pd_frz (pl_lst (pda_cons (pd_op (r := rAdd4 K) op_add4 sndo_add pd_int (pd_ix (r := rIx K) ix_seq sndo_ix (pdv 1) pd_int (fun _ _ => rfl))) (pda_cons pd_int pda_nil)))) (pd_callTy cr_int sndc_int rfl T.b_int PyProof.Rows.boot_int (pda_cons (pd_cmp (r := rEqD K) (op_eqD (Room_u64 hr)) sndo_eq (pd_ix (r := rIx K) ix_seq sndo_ix (pdv 4) pd_int (fun _ _ => rfl)) pd_str (nomark _)) pda_nil)) (fun _ _ => rfl)))
  (pdss_cons (pds_asg (pd_callK G_l_changed (hr.mono (by omega)) rfl T.g_l_changed T.d_l_changed.F.kp T.d_l_changed.b (pda_cons (pd_ix (r := rIx K) ix_seq sndo_ix (pdv 4) (pdv 5) (fun _ _ => rfl)) (pda_cons (pd_sliceK (K := K) (pdv 1) (pdo_some pd_int) pdo_none) (pda_cons (pdv 2) pda_nil)))) (pdg_sub (pdv 4) (pdv 5)))
  (pdss_one (pds_set (i := 2) nd rfl (Or.inl rfl) (pd_callTy (r := rTupOf K) cr_tuple sndc_tuple rfl T.b_tuple PyProof.Rows.boot_tuple (pda_cons (pdv 4) pda_nil)))))))
    pdss_nil)
  (pdss_one (pds_ret (pd_op (r := rAdd4 K) op_add4 sndo_add (pd_op (r := rAdd4 K) op_add4 sndo_add (pd_sliceK (K := K) (pdv 0) pdo_none (pdo_some (pdv 3))) (pd_tup (pda_cons (pdv 2) pda_nil))) (pd_sliceK (K := K) (pdv 0) (pdo_some (pd_op (r := rAdd4 K) op_add4 sndo_add (pdv 3) pd_int)) pdo_none)))))), sem_l_changed n⟩
theorem ok_l_bad_sum (T : Txt K mg) : FnD P w K mg base 1 T.d_l_bad_sum.f T.d_l_bad_sum.fd ["_law_cell", "_law_one"] S_l_bad_sum := by
  have nd := sc_l_bad_sum.nd
  refine fnD_pure T.d_l_bad_sum.F sc_l_bad_sum (len_l_bad_sum) fun cdv A outer s H E hr => ⟨_, R_l_bad_sum,
  (pdss_cons (pds_set (i := 2) nd rfl (Or.inl rfl) (pd_new (pl_listK (K := K) rfl T.b_list PyProof.Rows.boot_list (pd_ix (r := rIx K) ix_seq sndo_ix (pdv 1) pd_int (fun _ _ => rfl)))))
  (pdss_cons (pds_set (i := 3) nd rfl (Or.inl rfl) (pd_op op_mod sndo_mod (pd_op op_fdiv sndo_div (pdv 0) pd_int) (pd_callB (r := rLenS K) cr_len sndc_len rfl T.b_len PySem.boot_len (pda_cons (pdv 2) pda_nil))))
  (pdss_cons (pds_set (i := 4) nd rfl (Or.inl rfl) (pd_op op_mod sndo_mod (pdv 0) pd_int))
  (pdss_cons (pds_if (pdt_cmp (r := rEqD K) (op_eqD (Room_u64 hr)) sndo_eq (pdv 4) pd_int (nomark _))
    (pdss_one (pds_ret (pd_tup (pda_cons (pdv 2) (pda_cons (pd_ix (r := rIx K) ix_seq sndo_ix (pdv 1) pd_int (fun _ _ => rfl)) pda_nil)))))
    pdss_nil)
  (pdss_cons (pds_if (pdt_cmp (r := rEqD K) (op_eqD (Room_u64 hr)) sndo_eq (pdv 4) pd_int (nomark _))
    (pdss_one (pds_ret (pd_tup (pda_cons (pd_op (r := rAdd4 K) op_add4 sndo_add (pd_ix (r := rIx K) ix_seq sndo_ix (pdv 1) pd_int (fun _ _ => rfl)) (pd_tup (pda_cons pd_int pda_nil))) (pda_cons (pd_ix (r := rIx K) ix_seq sndo_ix (pdv 1) pd_int (fun _ _ => rfl)) pda_nil)))))
    pdss_nil)
  (pdss_cons (pds_if (pdt_cmp (r := rEqD K) (op_eqD (Room_u64 hr)) sndo_eq (pdv 4) pd_int (nomark _))
    (pdss_one (pds_ret (pd_tup (pda_cons (pd_sliceK (K := K) (pd_ix (r := rIx K) ix_seq sndo_ix (pdv 1) pd_int (fun _ _ => rfl)) (pdo_some pd_int) pdo_none) (pda_cons (pd_ix (r := rIx K) ix_seq sndo_ix (pdv 1) pd_int (fun _ _ => rfl)) pda_nil)))))
    pdss_nil)
  (pdss_cons (pds_if (pdt_cmp (r := rEqD K) (op_eqD (Room_u64 hr)) sndo_eq (pdv 4) pd_int (nomark _))
    (pdss_one (pds_ret (pd_tup (pda_cons (pd_ix (r := rIx K) ix_seq sndo_ix (pdv 1) pd_int (fun _ _ => rfl)) (pda_cons (pd_ix (r := rIx K) ix_seq sndo_ix (pd_frz (pl_lst (pda_cons pd_int (pda_cons (pd_neg pd_int) (pda_cons pd_bl (pda_cons pd_non (pda_cons pd_str (pda_cons (pd_op op_pow sndo_pow pd_int pd_int) pda_nil)))))))) (pd_op op_mod sndo_mod (pd_op op_fdiv sndo_div (pdv 0) pd_int) pd_int) (fun _ _ => rfl)) pda_nil)))))
    pdss_nil)
  (pdss_cons (pds_if (pdt_cmp (r := rEqD K) (op_eqD (Room_u64 hr)) sndo_eq (pdv 4) pd_int (nomark _))
    (pdss_one (pds_ret (pd_sliceK (K := K) (pdv 1) pdo_none (pdo_some pd_int))))
    pdss_nil)
  (pdss_cons (pds_if (pdt_cmp (r := rEqD K) (op_eqD (Room_u64 hr)) sndo_eq (pdv 4) pd_int (nomark _))
    (pdss_one (pds_ret (pd_frz (pl_listK (K := K) rfl T.b_list PyProof.Rows.boot_list (pdv 1)))))
    pdss_nil)
  (pdss_cons (pds_asg (pd_ix (r := rIx K) ix_seq sndo_ix (pd_frz (pl_lst (pda_cons pd_int (pda_cons (pd_neg pd_int) (pda_cons pd_bl (pda_cons pd_non (pda_cons pd_str (pda_cons (pd_op op_pow sndo_pow pd_int pd_int) pda_nil)))))))) (pd_op op_mod sndo_mod (pd_op op_fdiv sndo_div (pdv 0) pd_int) pd_int) (fun _ _ => rfl)) (pdg_sub (pdv 2) (pdv 3)))
  (pdss_one (pds_ret (pd_tup (pda_cons (pd_callTy (r := rTupOf K) cr_tuple sndc_tuple rfl T.b_tuple PyProof.Rows.boot_tuple (pda_cons (pdv 2) pda_nil)) (pda_cons (pd_ix (r := rIx K) ix_seq sndo_ix (pdv 1) pd_int (fun _ _ => rfl)) pda_nil))))))))))))))), sem_l_bad_sum⟩
theorem ok_l_bad_row (T : Txt K mg) : FnD P w K mg base 2 T.d_l_bad_row.f T.d_l_bad_row.fd ["_law_cell", "_law_row_here", "_law_many"] S_l_bad_row := by
  have nd := sc_l_bad_row.nd
  have G_l_bad_sum : FnD P w K mg base 1 T.d_l_bad_sum.f T.d_l_bad_sum.fd ["_law_cell", "_law_one"] S_l_bad_sum := ok_l_bad_sum T
  refine fnD_of T.d_l_bad_row.F sc_l_bad_row (len_l_bad_row) fun cdv A outer s H E hr => ⟨_, R_l_bad_row,
  (pdss_cons (pds_set (i := 3) nd rfl (Or.inl rfl) (pd_op op_mod sndo_mod (pdv 0) pd_int))
  (pdss_cons (pds_set (i := 4) nd rfl (Or.inl rfl) (pd_frz (pl_listK (K := K) rfl T.b_list PyProof.Rows.boot_list (pdv 1))))
  (pdss_cons (pds_if (pdt_cmp (r := rEqD K) (op_eqD (Room_u64 hr)) sndo_eq (pdv 3) pd_int (nomark _))
    (pdss_one (pds_ret (pdv 4)))
    pdss_nil)
  (pdss_cons (pds_if (pdt_cmp (r := rEqD K) (op_eqD (Room_u64 hr)) sndo_eq (pdv 3) pd_int (nomark _))
    (pdss_one (pds_ret (pd_callTy (r := rTupOf K) cr_tuple sndc_tuple rfl T.b_tuple PyProof.Rows.boot_tuple (pda_cons (pd_sliceK (K := K) (pdv 4) pdo_none (pdo_some (pd_neg pd_int))) pda_nil))))
    pdss_nil)
  (pdss_cons (pds_if (pdt_cmp (r := rEqD K) (op_eqD (Room_u64 hr)) sndo_eq (pdv 3) pd_int (nomark _))
    (pdss_one (pds_ret (pd_callTy (r := rTupOf K) cr_tuple sndc_tuple rfl T.b_tuple PyProof.Rows.boot_tuple (pda_cons (pd_op (r := rAdd4 K) op_add4 sndo_add (pdv 4) (pd_frz (pl_lst (pda_cons (pd_tup pda_nil) pda_nil)))) pda_nil))))
    pdss_nil)
  (pdss_cons (pds_if (pdt_cmp (r := rEqD K) (op_eqD (Room_u64 hr)) sndo_eq (pdv 3) pd_int (nomark _))
    (pdss_one (pds_ret (pd_op (r := rAdd4 K) op_add4 sndo_add (pd_tup (pda_cons (pd_ix (r := rIx K) ix_seq sndo_ix (pd_frz (pl_lst (pda_cons pd_str (pda_cons pd_str (pda_cons pd_non (pda_cons pd_bl (pda_cons pd_int (pda_cons (pd_frz (pl_lst pda_nil)) (pda_cons pd_empty (pda_cons (pd_frz (pl_lst (pda_cons (pd_ix (r := rIx K) ix_seq sndo_ix (pdv 1) pd_int (fun _ _ => rfl)) pda_nil))) pda_nil)))))))))) (pd_op op_mod sndo_mod (pd_op op_fdiv sndo_div (pdv 0) pd_int) pd_int) (fun _ _ => rfl)) pda_nil)) (pd_sliceK (K := K) (pdv 1) (pdo_some pd_int) pdo_none))))
    pdss_nil)
  (pdss_cons (pds_if (PDW.pt (pdw_and (pdt_cmp (r := rEqD K) (op_eqD (Room_u64 hr)) sndo_eq (pd_ix (r := rIx K) ix_seq sndo_ix (pdv 1) pd_int (fun _ _ => rfl)) pd_str (nomark _)) (pdw_and1 (pdt_cmp (r := rEqD K) (op_eqD (Room_u64 hr)) sndo_eq (pdv 3) pd_int (nomark _)))))
    (pdss_one (pds_ret (pd_tup (pda_cons pd_str (pda_cons (pd_ix (r := rIx K) ix_seq sndo_ix (pd_frz (pl_lst (pda_cons (pd_neg pd_int) (pda_cons (pdv 2) (pda_cons pd_bl (pda_cons pd_non (pda_cons pd_str pda_nil))))))) (pd_op op_mod sndo_mod (pd_op op_fdiv sndo_div (pdv 0) pd_int) pd_int) (fun _ _ => rfl)) (pda_cons (pd_ix (r := rIx K) ix_seq sndo_ix (pdv 1) pd_int (fun _ _ => rfl)) pda_nil))))))
    pdss_nil)
  (pdss_cons (pds_if (pdt_cmp (r := rEqD K) (op_eqD (Room_u64 hr)) sndo_eq (pd_ix (r := rIx K) ix_seq sndo_ix (pdv 1) pd_int (fun _ _ => rfl)) pd_str (nomark _))
    (pdss_one (pds_ret (pd_tup (pda_cons pd_str (pda_cons (pd_ix (r := rIx K) ix_seq sndo_ix (pdv 1) pd_int (fun _ _ => rfl)) (pda_cons (pd_callK G_l_bad_sum (hr.mono (by omega)) rfl T.g_l_bad_sum T.d_l_bad_sum.F.kp T.d_l_bad_sum.b (pda_cons (pd_op op_fdiv sndo_div (pdv 0) pd_int) (pda_cons (pd_ix (r := rIx K) ix_seq sndo_ix (pdv 1) pd_int (fun _ _ => rfl)) pda_nil))) pda_nil))))))
    pdss_nil)
  (pdss_cons (pds_if (PDW.pt (pdw_and (pdt_cmp (r := rEqD K) (op_eqD (Room_u64 hr)) sndo_eq (pd_ix (r := rIx K) ix_seq sndo_ix (pdv 1) pd_int (fun _ _ => rfl)) pd_str (nomark _)) (pdw_and1 (pdt_cmp (r := rEqD K) (op_eqD (Room_u64 hr)) sndo_eq (pdv 3) pd_int (nomark _)))))
    (pdss_cons (pds_set (i := 5) nd rfl (Or.inl rfl) (pd_tup (pda_cons (pd_callK G_l_bad_sum (hr.mono (by omega)) rfl T.g_l_bad_sum T.d_l_bad_sum.F.kp T.d_l_bad_sum.b (pda_cons (pd_op op_fdiv sndo_div (pdv 0) pd_int) (pda_cons (pd_ix (r := rIx K) ix_seq sndo_ix (pdv 1) pd_int (fun _ _ => rfl)) pda_nil))) pda_nil)))
  (pdss_one (pds_ret (pd_tup (pda_cons pd_str (pda_cons (pd_ix (r := rIx K) ix_seq sndo_ix (pdv 1) pd_int (fun _ _ => rfl)) (pda_cons (pd_ix (r := rIx K) ix_seq sndo_ix (pd_frz (pl_lst (pda_cons (pd_frz (pl_listK (K := K) rfl T.b_list PyProof.Rows.boot_list (pd_ix (r := rIx K) ix_seq sndo_ix (pdv 1) pd_int (fun _ _ => rfl)))) (pda_cons (pd_op (r := rMulT K) op_mulT sndo_mulT (pd_tup (pda_cons (pd_ix (r := rIx K) ix_seq sndo_ix (pdv 1) pd_int (fun _ _ => rfl)) pda_nil)) pd_int) (pda_cons (pdv 5) (pda_cons pd_non pda_nil)))))) (pd_op op_mod sndo_mod (pd_op op_fdiv sndo_div (pdv 0) pd_int) pd_int) (fun _ _ => rfl)) (pda_cons (pd_ix (r := rIx K) ix_seq sndo_ix (pdv 1) pd_int (fun _ _ => rfl)) pda_nil))))))))
    pdss_nil)
  (pdss_cons (pds_if (PDW.pt (pdw_and (pdt_cmp (r := rIn2 K) (op_in2 (Room_u65 hr)) sndo_in (pd_ix (r := rIx K) ix_seq sndo_ix (pdv 1) pd_int (fun _ _ => rfl)) (pd_tup (pda_cons pd_str (pda_cons pd_str pda_nil))) (by rfl)) (pdw_and1 (pdt_cmp (r := rEqD K) (op_eqD (Room_u64 hr)) sndo_eq (pd_op op_mod sndo_mod (pd_op op_fdiv sndo_div (pdv 0) pd_int) pd_int) pd_int (nomark _)))))
    (pdss_one (pds_ret (pd_op (r := rAdd4 K) op_add4 sndo_add (pd_sliceK (K := K) (pdv 1) pdo_none (pdo_some pd_int)) (pd_tup (pda_cons (pd_ix (r := rIx K) ix_seq sndo_ix (pd_frz (pl_lst (pda_cons (pd_frz (pl_listK (K := K) rfl T.b_list PyProof.Rows.boot_list (pd_ix (r := rIx K) ix_seq sndo_ix (pdv 1) pd_int (fun _ _ => rfl)))) (pda_cons pd_non (pda_cons pd_str (pda_cons (pd_tup (pda_cons pd_non pda_nil)) pda_nil)))))) (pd_op op_mod sndo_mod (pd_op op_fdiv sndo_div (pdv 0) pd_int) pd_int) (fun _ _ => rfl)) pda_nil)))))
    pdss_nil)
  (pdss_one (pds_ret (pd_op (r := rAdd4 K) op_add4 sndo_add (pd_tup (pda_cons (pd_ix (r := rIx K) ix_seq sndo_ix (pdv 1) pd_int (fun _ _ => rfl)) (pda_cons (pd_callK G_l_bad_sum (hr.mono (by omega)) rfl T.g_l_bad_sum T.d_l_bad_sum.F.kp T.d_l_bad_sum.b (pda_cons (pd_op op_fdiv sndo_div (pdv 0) pd_int) (pda_cons (pd_ix (r := rIx K) ix_seq sndo_ix (pdv 1) pd_int (fun _ _ => rfl)) pda_nil))) pda_nil))) (pd_sliceK (K := K) (pdv 1) (pdo_some pd_int) pdo_none)))))))))))))), sem_l_bad_row⟩
theorem ok_l_bad (T : Txt K mg) : FnD P w K mg base 6 T.d_l_bad.f T.d_l_bad.fd ["_law_cell", "_law_tops_here", "_law_rows_here"] S_l_bad := by
  have nd := sc_l_bad.nd
  have G_l_places : FnD P w K mg base 5 T.d_l_places.f T.d_l_places.fd ["_law_rows_here", "_law_ahead"] (S_l_places 4) := ok_l_places T 4
  have G_l_changed : FnD P w K mg base 5 T.d_l_changed.f T.d_l_changed.fd ["_law_rows_here", "_law_place", "_law_row_here"] (S_l_changed 4) := ok_l_changed T 4
  have G_l_bad_row : FnD P w K mg base 2 T.d_l_bad_row.f T.d_l_bad_row.fd ["_law_cell", "_law_row_here", "_law_many"] S_l_bad_row := ok_l_bad_row T
  refine fnD_of T.d_l_bad.F sc_l_bad (len_l_bad) fun cdv A outer s H E hr => ⟨_, R_l_bad,
  (pdss_cons (pds_set (i := 3) nd rfl (Or.inl rfl) (pd_callB (r := rLenS K) cr_len sndc_len rfl T.b_len PySem.boot_len (pda_cons (pdv 1) pda_nil)))
  (pdss_cons (pds_set (i := 4) nd rfl (Or.inl rfl) (pd_tup (pda_cons pd_str (pda_cons (pd_tup (pda_cons (pd_op (r := rMulT K) op_mulT sndo_mulT (pd_tup (pda_cons pd_int pda_nil)) (pdv 3)) (pda_cons pd_int pda_nil))) pda_nil))))
  (pdss_cons (pds_for PassesOwn.never rfl (pdi_rng1 rfl T.b_range pd_int) (pdg_name (i := 5) nd rfl (Or.inl rfl))
    (pdss_one (pds_set (i := 4) nd rfl (Or.inl rfl) (pd_tup (pda_cons pd_str (pda_cons (pd_tup (pda_cons (pd_op (r := rMulT K) op_mulT sndo_mulT (pd_tup (pda_cons pd_int pda_nil)) (pdv 3)) (pda_cons pd_int pda_nil))) (pda_cons (pd_tup pda_nil) (pda_cons (pd_tup (pda_cons (pdv 4) pda_nil)) pda_nil))))))))
  (pdss_cons (pds_set (i := 6) nd rfl (Or.inl rfl) (pd_frz (pl_lst (pda_cons (pd_frz (pl_lst (pda_cons (pd_callTy (r := rTupOf K) cr_tuple sndc_tuple rfl T.b_tuple PyProof.Rows.boot_tuple (pda_cons (pdv 1) pda_nil)) (pda_cons (pdv 2) pda_nil)))) (pda_cons (pd_frz (pl_lst (pda_cons (pd_frz (pl_lst pda_nil)) (pda_cons (pd_tup pda_nil) pda_nil)))) (pda_cons (pd_frz (pl_lst (pda_cons (pd_frz (pl_lst (pda_cons pd_int (pda_cons pd_int (pda_cons pd_int (pda_cons pd_int pda_nil)))))) (pda_cons (pd_tup pda_nil) pda_nil)))) (pda_cons (pd_frz (pl_lst (pda_cons (pdv 1) (pda_cons (pd_frz (pl_listK (K := K) rfl T.b_list PyProof.Rows.boot_list (pdv 2))) pda_nil)))) (pda_cons (pd_frz (pl_lst (pda_cons pd_non (pda_cons (pdv 2) pda_nil)))) (pda_cons (pd_frz (pl_lst (pda_cons (pdv 1) (pda_cons pd_non pda_nil)))) (pda_cons (pd_frz (pl_lst (pda_cons (pdv 1) (pda_cons (pd_op (r := rAdd4 K) op_add4 sndo_add (pdv 2) (pd_tup (pda_cons (pdv 4) pda_nil))) pda_nil)))) (pda_cons (pd_frz (pl_lst (pda_cons (pdv 1) (pda_cons (pd_op (r := rAdd4 K) op_add4 sndo_add (pdv 2) (pd_op (r := rMulT K) op_mulT sndo_mulT (pd_tup (pda_cons (pd_tup (pda_cons pd_str (pda_cons (pd_tup (pda_cons (pd_op (r := rMulT K) op_mulT sndo_mulT (pd_tup (pda_cons pd_int pda_nil)) (pdv 3)) (pda_cons pd_int pda_nil))) pda_nil))) pda_nil)) pd_int)) pda_nil)))) (pda_cons (pd_frz (pl_lst (pda_cons (pd_op (r := rAdd4 K) op_add4 sndo_add (pd_sliceK (K := K) (pdv 1) pdo_none (pdo_some (pd_neg pd_int))) (pd_frz (pl_lst (pda_cons (pd_ix (r := rIx K) ix_seq sndo_ix (pd_frz (pl_lst (pda_cons (pd_neg pd_int) (pda_cons pd_int (pda_cons pd_bl (pda_cons pd_str (pda_cons pd_non (pda_cons (pd_op op_pow sndo_pow pd_int pd_int) pda_nil)))))))) (pd_op op_mod sndo_mod (pd_op op_fdiv sndo_div (pdv 0) pd_int) pd_int) (fun _ _ => rfl)) pda_nil)))) (pda_cons (pdv 2) pda_nil)))) pda_nil))))))))))))
  (pdss_cons (pds_set (i := 7) nd rfl (Or.inl rfl) (pd_callK G_l_places (hr.mono (by omega)) rfl T.g_l_places T.d_l_places.F.kp T.d_l_places.b (pda_cons (pdv 2) (pda_cons (pd_tup pda_nil) pda_nil))))
  (pdss_cons (pds_if (PDW.pt (pdw_and (pdt_cmp (r := rLt2 K) (op_lt2 (Room_u0 hr)) sndo_lt (pd_op op_mod sndo_mod (pdv 0) pd_int) pd_int (nomark _)) (pdw_and1 (pdt_cmp (r := rNeD K) (op_neD (Room_u64 hr)) sndo_ne (pdv 7) (pd_frz (pl_lst pda_nil)) (nomark _)))))
    (pdss_cons (pds_set (i := 8) nd rfl (Or.inl rfl) (pd_ix (r := rIx K) ix_seq sndo_ix (pdv 7) (pd_op op_mod sndo_mod (pd_op op_fdiv sndo_div (pdv 0) pd_int) (pd_callB (r := rLenS K) cr_len sndc_len rfl T.b_len PySem.boot_len (pda_cons (pdv 7) pda_nil))) (fun _ _ => rfl)))
  (pdss_one (pds_ret (pd_frz (pl_lst (pda_cons (pdv 1) (pda_cons (pd_callK G_l_changed (hr.mono (by omega)) rfl T.g_l_changed T.d_l_changed.F.kp T.d_l_changed.b (pda_cons (pdv 2) (pda_cons (pd_ix (r := rIx K) ix_seq sndo_ix (pdv 8) pd_int (fun _ _ => rfl)) (pda_cons (pd_callK G_l_bad_row (hr.mono (by omega)) rfl T.g_l_bad_row T.d_l_bad_row.F.kp T.d_l_bad_row.b (pda_cons (pd_op op_fdiv sndo_div (pdv 0) pd_int) (pda_cons (pd_ix (r := rIx K) ix_seq sndo_ix (pdv 8) pd_int (fun _ _ => rfl)) (pda_cons (pdv 3) pda_nil)))) pda_nil)))) pda_nil)))))))
    pdss_nil)
  (pdss_one (pds_ret (pd_ix (r := rIx K) ix_seq sndo_ix (pdv 6) (pd_op op_mod sndo_mod (pd_op op_fdiv sndo_div (pdv 0) pd_int) pd_int) (fun _ _ => rfl)))))))))), sem_l_bad⟩
theorem ok_l_refused (T : Txt K mg) : FnD P w K mg base 14 T.d_l_refused.f T.d_l_refused.fd ["_law_tops_here", "_law_rows_here"] (S_l_refused T.aProgram T.aBadProgram) := by
  have nd := sc_l_refused.nd
  have G_Program_initX : FnX P w K mg base 12 T.d_Program_init.f T.d_Program_init.fd ["self", "tops", "rows"] (S_Program_initX T.aProgram T.aBadProgram) := ok_Program_initX T
  refine fnD_pure T.d_l_refused.F sc_l_refused (len_l_refused T.aProgram T.aBadProgram) fun cdv A outer s H E hr => ⟨_, (R_l_refused T.aProgram T.aBadProgram),
  (pdss_cons (pds_try1 (i := 2) T.aBadProgram rfl rfl nd rfl rfl ⟨rfl, by decide, Or.inl T.c_BadProgram⟩ (pdb_make T.mkProgram G_Program_initX (hr.mono (by omega)) rfl T.gProgram T.d_Program_init.b (fun pn xe => (pda_cons (pdv 0) (pda_cons (pdv 1) pda_nil)))) (exm_own T.nBadProgram T.xBadProgram.self) ⟨fun a oe pn hz hf => (pdss_cons (pds_if (PDW.pt (pdw_or (pdt_val (pd_isE (i := 2) T.xBadProgram.ec hz hf (kit_f T.nBadFilling T.xBadProgram.self T.sBadProgram_BadFilling) rfl T.b_isinstance PyProof.Rows.boot_isinstance rfl (by first | exact Or.inl rfl | exact Or.inr (Or.inl rfl) | exact Or.inr (Or.inr rfl)) rfl T.c_BadFilling)) (pdw_or1 (pdt_val (pd_isE (i := 2) T.xBadProgram.ec hz hf (kit_f T.nNoLoop T.xBadProgram.self T.sBadProgram_NoLoop) rfl T.b_isinstance PyProof.Rows.boot_isinstance rfl (by first | exact Or.inl rfl | exact Or.inr (Or.inl rfl) | exact Or.inr (Or.inr rfl)) rfl T.c_NoLoop)))))
    (pdss_one (pds_ret pd_bl))
    pdss_nil)
  (pdss_one (pds_ret (pd_and (pd_isE (i := 2) T.xBadProgram.ec hz hf (kit_t T.nLoopError T.sBadProgram_LoopError) rfl T.b_isinstance PyProof.Rows.boot_isinstance rfl (by first | exact Or.inl rfl | exact Or.inr (Or.inl rfl) | exact Or.inr (Or.inr rfl)) rfl T.c_LoopError) (pd_one (pd_isEB (i := 2) T.xBadProgram.ec hz hf (kit_ve T.sBadProgram_ValueError) rfl T.b_isinstance PyProof.Rows.boot_isinstance rfl (by first | exact Or.inl rfl | exact Or.inr (Or.inl rfl) | exact Or.inr (Or.inr rfl)) rfl T.b_ValueError (by rfl)))))))⟩)
  (pdss_one (pds_ret pd_bl))), sem_l_refused T.aProgram T.aBadProgram⟩
theorem ok_is_within (T : Txt K mg) : FnD P w K mg base 1 T.d_is_within.f T.d_is_within.fd ["program", "filling"] (S_is_within T.aProgram) := by
  have nd := sc_is_within.nd
  refine fnD_pure T.d_is_within.F sc_is_within (len_is_within T.aProgram) fun cdv A outer s H E hr => ⟨_, (R_is_within T.aProgram),
  (pdss_cons (pds_for PassesOwn.never rfl (pdi_zipK (K := K) rfl T.b_zip (pdv 1) (pd_fldK (K := K) (pdv 0) T.clProgram T.naProgram_tops)) (pdg_tupK (K := K) rfl (pdgs_cons (pdg_name (i := 2) nd rfl (Or.inl rfl)) (pdgs_cons (pdg_name (i := 3) nd rfl (Or.inl rfl)) pdgs_nil)))
    (pdss_one (pds_if (pdt_not (pdt_chain op_le sndo_le op_le sndo_le pd_int (pdv 2) (pdv 3)))
    (pdss_one (pds_ret pd_bl))
    pdss_nil)))
  (pdss_one (pds_ret pd_bl))), sem_is_within T.aProgram⟩
theorem ok_loops_in (T : Txt K mg) : ∀ n : Nat, FnD P w K mg base (n + 1) T.d_loops_in.f T.d_loops_in.fd ["rows", "ahead"] (S_loops_in n)
  | 0 => fnD_never T.d_loops_in.F sc_loops_in
  | n + 1 => by
    have nd := sc_loops_in.nd
    have G_loops_in := ok_loops_in T n
    have G_inner_rows : FnD P w K mg base 1 T.d_inner_rows.f T.d_inner_rows.fd ["row"] S_inner_rows := ok_inner_rows T
    refine fnD_pure T.d_loops_in.F sc_loops_in (len_loops_in n) fun cdv A outer s H E hr => ⟨_, R_loops_in n,
  (pdss_cons (pds_set (i := 2) nd rfl (Or.inl rfl) (pd_new (pl_lst pda_nil)))
  (pdss_cons (pds_for PassesOwn.never rfl (pdi_rng1 rfl T.b_range (pd_callB (r := rLenS K) cr_len sndc_len rfl T.b_len PySem.boot_len (pda_cons (pdv 0) pda_nil))) (pdg_name (i := 3) nd rfl (Or.inl rfl))
    (pdss_cons (pds_set (i := 4) nd rfl (Or.inl rfl) (pd_op (r := rAdd4 K) op_add4 sndo_add (pdv 1) (pd_tup (pda_cons (pdv 3) pda_nil))))
  (pdss_cons (pds_if (pdt_cmp (r := rEqD K) (op_eqD (Room_u64 hr)) sndo_eq (pd_ix (r := rIx K) ix_seq sndo_ix (pd_ix (r := rIx K) ix_seq sndo_ix (pdv 0) (pdv 3) (fun _ _ => rfl)) pd_int (fun _ _ => rfl)) pd_str (nomark _))
    (pdss_one (pds_expr (pd_append (pdv 2) (pdv 4))))
    pdss_nil)
  (pdss_cons (pds_set (i := 5) nd rfl (Or.inl rfl) (pd_callK G_inner_rows (hr.mono (by omega)) rfl T.g_inner_rows T.d_inner_rows.F.kp T.d_inner_rows.b (pda_cons (pd_ix (r := rIx K) ix_seq sndo_ix (pdv 0) (pdv 3) (fun _ _ => rfl)) pda_nil)))
  (pdss_one (pds_for PassesOwn.never rfl (pdi_rng1 rfl T.b_range (pd_callB (r := rLenS K) cr_len sndc_len rfl T.b_len PySem.boot_len (pda_cons (pdv 5) pda_nil))) (pdg_name (i := 6) nd rfl (Or.inl rfl))
    (pdss_one (pds_expr (pd_extend (pdv 2) (pd_callK G_loops_in (hr.mono (by omega)) rfl T.g_loops_in T.d_loops_in.F.kp T.d_loops_in.b (pda_cons (pd_ix (r := rIx K) ix_seq sndo_ix (pdv 5) (pdv 6) (fun _ _ => rfl)) (pda_cons (pd_op (r := rAdd4 K) op_add4 sndo_add (pdv 4) (pd_tup (pda_cons (pdv 6) pda_nil))) pda_nil))))))))))))
  (pdss_one (pds_ret (pdv 2))))), sem_loops_in n⟩
theorem ok_loops_inO (T : Txt K mg) : FnD P w K mg base 5 T.d_loops_in.f T.d_loops_in.fd ["rows", "ahead"] S_loops_inO := by
  have nd := sc_loops_in.nd
  have G_loops_in := ok_loops_in (P := P) (w := w) (base := base) T 3
  have G_inner_rows : FnD P w K mg base 1 T.d_inner_rows.f T.d_inner_rows.fd ["row"] S_inner_rows := ok_inner_rows T
  refine fnD_of T.d_loops_in.F sc_loops_in (len_loops_inO) fun cdv A outer s H E hr => ⟨_, R_loops_in 3,
  (pdss_cons (pds_set (i := 2) nd rfl (Or.inl rfl) (pd_new (pl_lst pda_nil)))
  (pdss_cons (pds_for PassesOwn.never rfl (pdi_rng1 rfl T.b_range (pd_callB (r := rLenS K) cr_len sndc_len rfl T.b_len PySem.boot_len (pda_cons (pdv 0) pda_nil))) (pdg_name (i := 3) nd rfl (Or.inl rfl))
    (pdss_cons (pds_set (i := 4) nd rfl (Or.inl rfl) (pd_op (r := rAdd4 K) op_add4 sndo_add (pdv 1) (pd_tup (pda_cons (pdv 3) pda_nil))))
  (pdss_cons (pds_if (pdt_cmp (r := rEqD K) (op_eqD (Room_u64 hr)) sndo_eq (pd_ix (r := rIx K) ix_seq sndo_ix (pd_ix (r := rIx K) ix_seq sndo_ix (pdv 0) (pdv 3) (fun _ _ => rfl)) pd_int (fun _ _ => rfl)) pd_str (nomark _))
    (pdss_one (pds_expr (pd_append (pdv 2) (pdv 4))))
    pdss_nil)
  (pdss_cons (pds_set (i := 5) nd rfl (Or.inl rfl) (pd_callK G_inner_rows (hr.mono (by omega)) rfl T.g_inner_rows T.d_inner_rows.F.kp T.d_inner_rows.b (pda_cons (pd_ix (r := rIx K) ix_seq sndo_ix (pdv 0) (pdv 3) (fun _ _ => rfl)) pda_nil)))
  (pdss_one (pds_for PassesOwn.never rfl (pdi_rng1 rfl T.b_range (pd_callB (r := rLenS K) cr_len sndc_len rfl T.b_len PySem.boot_len (pda_cons (pdv 5) pda_nil))) (pdg_name (i := 6) nd rfl (Or.inl rfl))
    (pdss_one (pds_expr (pd_extend (pdv 2) (pd_callK G_loops_in (hr.mono (by omega)) rfl T.g_loops_in T.d_loops_in.F.kp T.d_loops_in.b (pda_cons (pd_ix (r := rIx K) ix_seq sndo_ix (pdv 5) (pdv 6) (fun _ _ => rfl)) (pda_cons (pd_op (r := rAdd4 K) op_add4 sndo_add (pdv 4) (pd_tup (pda_cons (pdv 6) pda_nil))) pda_nil))))))))))))
  (pdss_one (pds_ret (pdv 2))))), sem_loops_inO⟩
theorem ok_Program_loops (T : Txt K mg) : FnD P w K mg base 6 T.d_Program_loops.f T.d_Program_loops.fd ["self"] (S_Program_loops T.aProgram) := by
  have nd := sc_Program_loops.nd
  have G_loops_in : FnD P w K mg base 5 T.d_loops_in.f T.d_loops_in.fd ["rows", "ahead"] (S_loops_in 4) := ok_loops_in T 4
  refine fnD_pure T.d_Program_loops.F sc_Program_loops (len_Program_loops T.aProgram) fun cdv A outer s H E hr => ⟨_, (R_Program_loops T.aProgram),
  (pdss_one (pds_ret (pd_callK G_loops_in (hr.mono (by omega)) rfl T.g_loops_in T.d_loops_in.F.kp T.d_loops_in.b (pda_cons (pd_fldK (K := K) (pdv 0) T.clProgram T.naProgram_rows) (pda_cons (pd_tup pda_nil) pda_nil))))), sem_Program_loops T.aProgram⟩
theorem ok_Program_loopsO (T : Txt K mg) : FnD P w K mg base 6 T.d_Program_loops.f T.d_Program_loops.fd ["self"] (S_Program_loopsO T.aProgram) := by
  have nd := sc_Program_loops.nd
  have G_loops_in : FnD P w K mg base 5 T.d_loops_in.f T.d_loops_in.fd ["rows", "ahead"] S_loops_inO := ok_loops_inO T
  refine fnD_of T.d_Program_loops.F sc_Program_loops (len_Program_loopsO T.aProgram) fun cdv A outer s H E hr => ⟨_, R_Program_loopsO T.aProgram,
  (pdss_one (pds_ret (pd_callK G_loops_in (hr.mono (by omega)) rfl T.g_loops_in T.d_loops_in.F.kp T.d_loops_in.b (pda_cons (pd_fldK (K := K) (pdv 0) T.clProgram T.naProgram_rows) (pda_cons (pd_tup pda_nil) pda_nil))))), sem_Program_loopsO T.aProgram⟩
theorem ok_Program_row (T : Txt K mg) : FnD P w K mg base 2 T.d_Program_row.f T.d_Program_row.fd ["self", "place"] (S_Program_row T.aProgram) := by
  have nd := sc_Program_row.nd
  have G_inner_rows : FnD P w K mg base 1 T.d_inner_rows.f T.d_inner_rows.fd ["row"] S_inner_rows := ok_inner_rows T
  refine fnD_pure T.d_Program_row.F sc_Program_row (len_Program_row T.aProgram) fun cdv A outer s H E hr => ⟨_, (R_Program_row T.aProgram),
  (pdss_cons (pds_set (i := 2) nd rfl (Or.inl rfl) (pd_ix (r := rIx K) ix_seq sndo_ix (pd_fldK (K := K) (pdv 0) T.clProgram T.naProgram_rows) (pd_ix (r := rIx K) ix_seq sndo_ix (pdv 1) pd_int (fun _ _ => rfl)) (fun _ _ => rfl)))
  (pdss_cons (pds_for PassesOwn.never rfl (pdi_rng3 rfl T.b_range pd_int (pd_callB (r := rLenS K) cr_len sndc_len rfl T.b_len PySem.boot_len (pda_cons (pdv 1) pda_nil)) pd_int) (pdg_name (i := 3) nd rfl (Or.inl rfl))
    (pdss_one (pds_set (i := 2) nd rfl (Or.inl rfl) (pd_ix (r := rIx K) ix_seq sndo_ix (pd_ix (r := rIx K) ix_seq sndo_ix (pd_callK G_inner_rows (hr.mono (by omega)) rfl T.g_inner_rows T.d_inner_rows.F.kp T.d_inner_rows.b (pda_cons (pdv 2) pda_nil)) (pd_ix (r := rIx K) ix_seq sndo_ix (pdv 1) (pdv 3) (fun _ _ => rfl)) (fun _ _ => rfl)) (pd_ix (r := rIx K) ix_seq sndo_ix (pdv 1) (pd_op (r := rAdd4 K) op_add4 sndo_add (pdv 3) pd_int) (fun _ _ => rfl)) (fun _ _ => rfl)))))
  (pdss_one (pds_ret (pdv 2))))), sem_Program_row T.aProgram⟩
theorem ok_l_right (T : Txt K mg) : FnD P w K mg base 7 T.d_l_right.f T.d_l_right.fd ["_law_program_here", "_law_tops_here", "_law_rows_here", "_law_kept"] (S_l_right T.aProgram) := by
  have nd := sc_l_right.nd
  have G_l_places : FnD P w K mg base 5 T.d_l_places.f T.d_l_places.fd ["_law_rows_here", "_law_ahead"] (S_l_places 4) := ok_l_places T 4
  have G_Program_loops : FnD P w K mg base 6 T.d_Program_loops.f T.d_Program_loops.fd ["self"] (S_Program_loopsO T.aProgram) := ok_Program_loopsO T
  have G_Program_row : FnD P w K mg base 2 T.d_Program_row.f T.d_Program_row.fd ["self", "place"] (S_Program_row T.aProgram) := ok_Program_row T
  refine fnD_of T.d_l_right.F sc_l_right (len_l_right T.aProgram) fun cdv A outer s H E hr => ⟨_, (R_l_right T.aProgram),
  (pdss_cons (pds_if (PDW.pt (pdw_or (pdt_not (pdt_val (pd_isiK (K := K) .lst "list" kit_lst rfl T.b_isinstance PyProof.Rows.boot_isinstance (pd_fldK (K := K) (pdv 0) T.clProgram T.naProgram_tops) rfl T.b_list PyProof.Rows.boot_list))) (pdw_or (pdt_cmp (r := rNeD K) (op_neD (Room_u64 hr)) sndo_ne (pd_fldK (K := K) (pdv 0) T.clProgram T.naProgram_tops) (pdv 1) (nomark _)) (pdw_or1 (pdt_cmp (r := rNeD K) (op_neD (Room_u64 hr)) sndo_ne (pd_fldK (K := K) (pdv 0) T.clProgram T.naProgram_rows) (pdv 2) (nomark _))))))
    (pdss_one (pds_ret pd_bl))
    pdss_nil)
  (pdss_cons (pds_set (i := 4) nd rfl (Or.inl rfl) (pd_callK G_l_places (hr.mono (by omega)) rfl T.g_l_places T.d_l_places.F.kp T.d_l_places.b (pda_cons (pdv 2) (pda_cons (pd_tup pda_nil) pda_nil))))
  (pdss_cons (pds_for PassesOwn.never rfl (pdi_listK (K := K) (pdv 4)) (pdg_tupK (K := K) rfl (pdgs_cons (pdg_name (i := 5) nd rfl (Or.inl rfl)) (pdgs_cons (pdg_name (i := 6) nd rfl (Or.inl rfl)) pdgs_nil)))
    (pdss_one (pds_if (pdt_cmp (r := rNeD K) (op_neD (Room_u64 hr)) sndo_ne (pd_methK (pdv 0) T.clProgram T.meProgram_row G_Program_row (hr.mono (by omega)) T.d_Program_row.b (pda_cons (pdv 5) pda_nil)) (pdv 6) (nomark _))
    (pdss_one (pds_ret pd_bl))
    pdss_nil)))
  (pdss_cons (pds_set (i := 7) nd rfl (Or.inl rfl) (pd_methK0 (pdv 0) T.clProgram T.meProgram_loops G_Program_loops (hr.mono (by omega)) T.d_Program_loops.b))
  (pdss_cons (lc_frz (pds_setLc (i := 8) (own := [("_law_place", 5), ("_law_row_here", 6)]) rfl nd rfl rfl (sw_true rfl rfl rfl (by decide +kernel)) (pdi_listK (K := K) (pdv 4)) (blkOk_by (by rfl)) (fun _ _ _ _ _ => pdg_tupK (K := K) rfl (pdgs_cons (pdg_name (i := 5) nd rfl (by first | exact Or.inl rfl | exact Or.inr rfl)) (pdgs_cons (pdg_name (i := 6) nd rfl (by first | exact Or.inl rfl | exact Or.inr rfl)) pdgs_nil))) (own_tup (own_consN (by decide) (own_consN (by decide) own_nil))) (fun _ _ _ _ _ => (pdts_one (pdt_cmp (r := rEqD K) (op_eqD (Room_u64 hr)) sndo_eq (pd_ix (r := rIx K) ix_seq sndo_ix (pdv 6) pd_int (fun _ _ => rfl)) pd_str (nomark _)))) (fun _ _ _ _ _ => (pdv 5))))
  (pdss_cons (pds_if (PDW.pt (pdw_or (pdt_not (pdt_val (pd_isiK (K := K) .lst "list" kit_lst rfl T.b_isinstance PyProof.Rows.boot_isinstance (pdv 7) rfl T.b_list PyProof.Rows.boot_list))) (pdw_or1 (pdt_cmp (r := rNeD K) (op_neD (Room_u64 hr)) sndo_ne (pdv 7) (pdv 8) (nomark _)))))
    (pdss_one (pds_ret pd_bl))
    pdss_nil)
  (pdss_cons (pds_expr (pd_append (pdv 7) (pd_tup pda_nil)))
  (pdss_cons (pds_expr (pd_append (pdv 3) (pd_tup (pda_cons (pdv 7) (pda_cons (pd_frz (pl_listK (K := K) rfl T.b_list PyProof.Rows.boot_list (pdv 7))) pda_nil)))))
  (pdss_one (pds_ret pd_bl)))))))))), sem_l_right T.aProgram⟩
theorem ok_law02 (T : Txt K mg) : FnD P w K mg base 15 T.d_law02.f T.d_law02.fd ["_law_script"] S_law := by
  have nd := sc_law02.nd
  have G_l_program : FnD P w K mg base 12 T.d_l_program.f T.d_l_program.fd ["_law_script", "_law_most"] S_l_program := ok_l_program T
  have G_l_at : FnD P w K mg base 1 T.d_l_at.f T.d_l_at.fd ["_law_script", "_law_k"] S_l_at := ok_l_at T
  have G_Program_init : FnD P w K mg base 12 T.d_Program_init.f T.d_Program_init.fd ["self", "tops", "rows"] (S_Program_init T.aProgram) := ok_Program_init T
  have G_l_bad : FnD P w K mg base 6 T.d_l_bad.f T.d_l_bad.fd ["_law_cell", "_law_tops_here", "_law_rows_here"] S_l_bad := ok_l_bad T
  have G_l_refused : FnD P w K mg base 14 T.d_l_refused.f T.d_l_refused.fd ["_law_tops_here", "_law_rows_here"] (S_l_refused T.aProgram T.aBadProgram) := ok_l_refused T
  have G_is_within : FnD P w K mg base 1 T.d_is_within.f T.d_is_within.fd ["program", "filling"] (S_is_within T.aProgram) := ok_is_within T
  have G_l_right : FnD P w K mg base 7 T.d_l_right.f T.d_l_right.fd ["_law_program_here", "_law_tops_here", "_law_rows_here", "_law_kept"] (S_l_right T.aProgram) := ok_l_right T
  have G_l_places : FnD P w K mg base 5 T.d_l_places.f T.d_l_places.fd ["_law_rows_here", "_law_ahead"] (S_l_places 4) := ok_l_places T 4
  refine fnD_pure T.d_law02.F sc_law02 (len_law) fun cdv A outer s H E hr => ⟨_, (R_law02 T.aProgram T.aBadProgram),
  (pdss_cons (pds_asg (pd_callK G_l_program (hr.mono (by omega)) rfl T.g_l_program T.d_l_program.F.kp T.d_l_program.b (pda_cons (pdv 0) (pda_cons pd_int pda_nil))) (pdg_tupK (K := K) rfl (pdgs_cons (pdg_name (i := 1) nd rfl (Or.inr rfl)) (pdgs_cons (pdg_name (i := 2) nd rfl (Or.inl rfl)) pdgs_nil))))
  (pdss_cons (pds_set (i := 3) nd rfl (Or.inl rfl) (pd_callK G_l_at (hr.mono (by omega)) rfl T.g_l_at T.d_l_at.F.kp T.d_l_at.b (pda_cons (pdv 0) (pda_cons pd_int pda_nil))))
  (pdss_cons (pds_if (pdt_cmp (r := rEqD K) (op_eqD (Room_u64 hr)) sndo_eq (pd_op op_mod sndo_mod (pdv 3) pd_int) pd_int (nomark _))
    (pdss_cons (pds_set (i := 4) nd rfl (Or.inl rfl) (pd_callK G_l_bad (hr.mono (by omega)) rfl T.g_l_bad T.d_l_bad.F.kp T.d_l_bad.b (pda_cons (pd_op op_fdiv sndo_div (pdv 3) pd_int) (pda_cons (pdv 1) (pda_cons (pdv 2) pda_nil)))))
  (pdss_one (pds_ret (pd_callK G_l_refused (hr.mono (by omega)) rfl T.g_l_refused T.d_l_refused.F.kp T.d_l_refused.b (pda_cons (pd_ix (r := rIx K) ix_seq sndo_ix (pdv 4) pd_int (fun _ _ => rfl)) (pda_cons (pd_ix (r := rIx K) ix_seq sndo_ix (pdv 4) pd_int (fun _ _ => rfl)) pda_nil))))))
    pdss_nil)
  (pdss_cons (pds_if (pdt_cmp (r := rEqD K) (op_eqD (Room_u64 hr)) sndo_eq (pd_op op_mod sndo_mod (pd_op op_fdiv sndo_div (pdv 3) pd_int) pd_int) pd_int (nomark _))
    (pdss_cons (pds_set (i := 5) nd rfl (Or.inl rfl) (pd_tup (pda_cons pd_str (pda_cons (pd_tup (pda_cons (pd_op (r := rMulT K) op_mulT sndo_mulT (pd_tup (pda_cons pd_int pda_nil)) (pd_callB (r := rLenS K) cr_len sndc_len rfl T.b_len PySem.boot_len (pda_cons (pdv 1) pda_nil))) (pda_cons pd_int pda_nil))) pda_nil))))
  (pdss_cons (pds_set (i := 2) nd rfl (Or.inl rfl) (pd_op (r := rAdd4 K) op_add4 sndo_add (pdv 2) (pd_op (r := rMulT K) op_mulT sndo_mulT (pd_tup (pda_cons (pdv 5) pda_nil)) (pd_op op_sub sndo_sub pd_int (pd_callB (r := rLenS K) cr_len sndc_len rfl T.b_len PySem.boot_len (pda_cons (pd_callK G_l_places (hr.mono (by omega)) rfl T.g_l_places T.d_l_places.F.kp T.d_l_places.b (pda_cons (pdv 2) (pda_cons (pd_tup pda_nil) pda_nil))) pda_nil))))))
  (pdss_one (pds_if (pdt_not (pdt_val (pd_callK G_l_refused (hr.mono (by omega)) rfl T.g_l_refused T.d_l_refused.F.kp T.d_l_refused.b (pda_cons (pd_frz (pl_listK (K := K) rfl T.b_list PyProof.Rows.boot_list (pdv 1))) (pda_cons (pd_op (r := rAdd4 K) op_add4 sndo_add (pdv 2) (pd_tup (pda_cons (pdv 5) pda_nil))) pda_nil)))))
    (pdss_one (pds_ret pd_bl))
    pdss_nil))))
    pdss_nil)
  (pdss_cons (pds_set (i := 6) nd rfl (Or.inl rfl) (pd_new (pl_listK (K := K) rfl T.b_list PyProof.Rows.boot_list (pdv 1))))
  (pdss_cons (pds_set (i := 7) nd rfl (Or.inl rfl) (pd_give (pd_make T.mkProgram G_Program_init (hr.mono (by omega)) rfl T.gProgram T.d_Program_init.b (pda_cons (pdv 6) (pda_cons (pdv 2) pda_nil)))))
  (pdss_cons (pds_if (pdt_cmp (r := rNeD K) (op_neD (Room_u64 hr)) sndo_ne (pdv 6) (pdv 1) (nomark _))
    (pdss_one (pds_ret pd_bl))
    pdss_nil)
  (pdss_cons (pds_expr (pd_append (pdv 6) pd_non))
  (pdss_cons (pds_set (i := 8) nd rfl (Or.inl rfl) (pd_new (pl_lst pda_nil)))
  (pdss_cons (pds_set (i := 9) nd rfl (Or.inr rfl) (pd_frz (pl_lc (own := [("_law_k", 10)]) rfl nd (pdi_rng1 rfl T.b_range (pd_callB (r := rLenS K) cr_len sndc_len rfl T.b_len PySem.boot_len (pda_cons (pdv 1) pda_nil))) (blkOk_by (by rfl)) (fun _ _ _ _ _ => pdg_name (i := 10) nd rfl (by first | exact Or.inl rfl | exact Or.inr rfl)) (own_name (by decide)) (fun _ _ _ _ _ => pdts_nil) (fun _ _ _ _ _ => (pd_op op_sub sndo_sub (pd_op op_mod sndo_mod (pd_callK G_l_at (hr.mono (by omega)) rfl T.g_l_at T.d_l_at.F.kp T.d_l_at.b (pda_cons (pdv 0) (pda_cons (pd_op (r := rAdd4 K) op_add4 sndo_add pd_int (pdv 10)) pda_nil))) (pd_op (r := rAdd4 K) op_add4 sndo_add (pd_ix (r := rIx K) ix_seq sndo_ix (pdv 1) (pdv 10) (fun _ _ => rfl)) pd_int)) pd_int)))))
  (pdss_cons (pds_for PassesOwn.never rfl (pdi_rng1 rfl T.b_range pd_int) (pdg_name (i := 11) nd rfl (Or.inl rfl))
    (pdss_cons (lc_frz (pds_setLc (i := 12) (own := [("_law_k", 10)]) rfl nd rfl rfl (sw_true rfl rfl rfl (by decide +kernel)) (pdi_rng1 rfl T.b_range (pd_callB (r := rLenS K) cr_len sndc_len rfl T.b_len PySem.boot_len (pda_cons (pdv 1) pda_nil))) (blkOk_by (by rfl)) (fun _ _ _ _ _ => pdg_name (i := 10) nd rfl (by first | exact Or.inl rfl | exact Or.inr rfl)) (own_name (by decide)) (fun _ _ _ _ _ => (pdts_one (pdt_not (pdt_chain op_le sndo_le op_le sndo_le pd_int (pd_ix (r := rIx K) ix_seq sndo_ix (pdv 9) (pdv 10) (fun _ _ => rfl)) (pd_ix (r := rIx K) ix_seq sndo_ix (pdv 1) (pdv 10) (fun _ _ => rfl)))))) (fun _ _ _ _ _ => (pdv 10))))
  (pdss_cons (pds_set (i := 13) nd rfl (Or.inl rfl) (pd_cmp (r := rEqD K) (op_eqD (Room_u64 hr)) sndo_eq (pdv 12) (pd_frz (pl_lst pda_nil)) (nomark _)))
  (pdss_cons (pds_set (i := 14) nd rfl (Or.inl rfl) (pd_callK G_is_within (hr.mono (by omega)) rfl T.g_is_within T.d_is_within.F.kp T.d_is_within.b (pda_cons (pdv 7) (pda_cons (pdv 9) pda_nil))))
  (pdss_cons (pds_if (pdt_not (pdt_val (pd_callK G_l_right (hr.mono (by omega)) rfl T.g_l_right T.d_l_right.F.kp T.d_l_right.b (pda_cons (pdv 7) (pda_cons (pdv 1) (pda_cons (pdv 2) (pda_cons (pdv 8) pda_nil)))))))
    (pdss_one (pds_ret pd_bl))
    pdss_nil)
  (pdss_cons (pds_if (PDW.pt (pdw_or (pdt_not (pdt_val (pd_isiK (K := K) .bl "bool" kit_bl rfl T.b_isinstance PyProof.Rows.boot_isinstance (pdv 14) rfl T.b_bool PyProof.Rows.boot_bool))) (pdw_or1 (pdt_cmp (r := rNeD K) (op_neD (Room_u64 hr)) sndo_ne (pdv 14) (pdv 13) (nomark _)))))
    (pdss_one (pds_ret pd_bl))
    pdss_nil)
  (pdss_one (pds_set (i := 9) nd rfl (Or.inr rfl) (pd_frz (pl_lc (own := [("_law_held", 15)]) rfl nd (pdi_listK (K := K) (pdv 9)) (blkOk_by (by rfl)) (fun _ _ _ _ _ => pdg_name (i := 15) nd rfl (by first | exact Or.inl rfl | exact Or.inr rfl)) (own_name (by decide)) (fun _ _ _ _ _ => pdts_nil) (fun _ _ _ _ _ => (pd_op op_fdiv sndo_div (pdv 15) pd_int))))))))))))
  (pdss_one (pds_ret (pd_cmp (r := rEqD K) (op_eqD (Room_u64 hr)) sndo_eq (pd_frz (pl_lc (own := [("_law_pair", 16)]) rfl nd (pdi_listK (K := K) (pdv 8)) (blkOk_by (by rfl)) (fun _ _ _ _ _ => pdg_name (i := 16) nd rfl (by first | exact Or.inl rfl | exact Or.inr rfl)) (own_name (by decide)) (fun _ _ _ _ _ => (pdts_one (pdt_cmp (r := rNeD K) (op_neD (Room_u64 hr)) sndo_ne (pd_ix (r := rIx K) ix_seq sndo_ix (pdv 16) pd_int (fun _ _ => rfl)) (pd_ix (r := rIx K) ix_seq sndo_ix (pdv 16) pd_int (fun _ _ => rfl)) (nomark _)))) (fun _ _ _ _ _ => (pdv 16)))) (pd_frz (pl_lst pda_nil)) (nomark _))))))))))))))), sem_law02 T.aProgram T.aBadProgram⟩
end
theorem all_mk {l : PySem.W.OpenLaw} {w : World} {K : PySem.W.Frag} {h : Heap} {mg : Str → Option Value} {fa : Addr} (X : K.In h) (G : h.Ns mainGlobals mg) (hfa : mg "law" = some (.ref fa))
    {f0 f1 f2 f3 f4 f5 f6 f7 f8 f9 f10 f11 f12 f13 f14 f15 f16 f17 f18 f19 f20 f21 f22 f23 f24 f25 f26 f27 f28 : Addr} {od0 an0 : Option Addr} {sl0 : Array (Option Value)} {oc0 kV0 dc0 pm0 cd0 ct0 : Value} {od1 an1 : Option Addr} {sl1 : Array (Option Value)} {oc1 kV1 dc1 pm1 cd1 ct1 : Value} {od2 an2 : Option Addr} {sl2 : Array (Option Value)} {oc2 kV2 dc2 pm2 cd2 ct2 : Value} {od3 an3 : Option Addr} {sl3 : Array (Option Value)} {oc3 kV3 dc3 pm3 cd3 ct3 : Value} {od4 an4 : Option Addr} {sl4 : Array (Option Value)} {oc4 kV4 dc4 pm4 cd4 ct4 : Value} {od5 an5 : Option Addr} {sl5 : Array (Option Value)} {oc5 kV5 dc5 pm5 cd5 ct5 : Value} {od6 an6 : Option Addr} {sl6 : Array (Option Value)} {oc6 kV6 dc6 pm6 cd6 ct6 : Value} {od7 an7 : Option Addr} {sl7 : Array (Option Value)} {oc7 kV7 dc7 pm7 cd7 ct7 : Value} {od8 an8 : Option Addr} {sl8 : Array (Option Value)} {oc8 kV8 dc8 pm8 cd8 ct8 : Value} {od9 an9 : Option Addr} {sl9 : Array (Option Value)} {oc9 kV9 dc9 pm9 cd9 ct9 : Value} {od10 an10 : Option Addr} {sl10 : Array (Option Value)} {oc10 kV10 dc10 pm10 cd10 ct10 : Value} {od11 an11 : Option Addr} {sl11 : Array (Option Value)} {oc11 kV11 dc11 pm11 cd11 ct11 : Value} {od12 an12 : Option Addr} {sl12 : Array (Option Value)} {oc12 kV12 dc12 pm12 cd12 ct12 : Value} {od13 an13 : Option Addr} {sl13 : Array (Option Value)} {oc13 kV13 dc13 pm13 cd13 ct13 : Value} {od14 an14 : Option Addr} {sl14 : Array (Option Value)} {oc14 kV14 dc14 pm14 cd14 ct14 : Value} {od15 an15 : Option Addr} {sl15 : Array (Option Value)} {oc15 kV15 dc15 pm15 cd15 ct15 : Value} {od16 an16 : Option Addr} {sl16 : Array (Option Value)} {oc16 kV16 dc16 pm16 cd16 ct16 : Value} {od17 an17 : Option Addr} {sl17 : Array (Option Value)} {oc17 kV17 dc17 pm17 cd17 ct17 : Value} {od18 an18 : Option Addr} {sl18 : Array (Option Value)} {oc18 kV18 dc18 pm18 cd18 ct18 : Value} {od19 an19 : Option Addr} {sl19 : Array (Option Value)} {oc19 kV19 dc19 pm19 cd19 ct19 : Value} {od20 an20 : Option Addr} {sl20 : Array (Option Value)} {oc20 kV20 dc20 pm20 cd20 ct20 : Value} {od21 an21 : Option Addr} {sl21 : Array (Option Value)} {oc21 kV21 dc21 pm21 cd21 ct21 : Value} {od22 an22 : Option Addr} {sl22 : Array (Option Value)} {oc22 kV22 dc22 pm22 cd22 ct22 : Value} {od23 an23 : Option Addr} {sl23 : Array (Option Value)} {oc23 kV23 dc23 pm23 cd23 ct23 : Value} {od24 an24 : Option Addr} {sl24 : Array (Option Value)} {oc24 kV24 dc24 pm24 cd24 ct24 : Value} {od25 an25 : Option Addr} {sl25 : Array (Option Value)} {oc25 kV25 dc25 pm25 cd25 ct25 : Value} {od26 an26 : Option Addr} {sl26 : Array (Option Value)} {oc26 kV26 dc26 pm26 cd26 ct26 : Value} {od27 an27 : Option Addr} {sl27 : Array (Option Value)} {oc27 kV27 dc27 pm27 cd27 ct27 : Value} {od28 an28 : Option Addr} {sl28 : Array (Option Value)} {oc28 kV28 dc28 pm28 cd28 ct28 : Value}
    {CProgram : Addr}
    {tkMOST_BOXES tkMOST_TOP tkMOST_MORE tkMOST_NUMBER tkMOST_WORDS tkMOST_ROWS tkMOST_DEEP : Tok}
    {EBadProgram EBadFilling ENoLoop ELoopError : Addr}
    (qeBadProgram : PySem.W.nsIn K mainGlobals "BadProgram" = some (some (.ref EBadProgram)))
    (xtBadProgram : PySem.W.typeIn K (.ref EBadProgram) = some (.type "type"))
    (xbBadProgram : PySem.W.subIn K (.ref EBadProgram) (.type "BaseException") = some true)
    (qeBadFilling : PySem.W.nsIn K mainGlobals "BadFilling" = some (some (.ref EBadFilling)))
    (xtBadFilling : PySem.W.typeIn K (.ref EBadFilling) = some (.type "type"))
    (xbBadFilling : PySem.W.subIn K (.ref EBadFilling) (.type "BaseException") = some true)
    (qeNoLoop : PySem.W.nsIn K mainGlobals "NoLoop" = some (some (.ref ENoLoop)))
    (xtNoLoop : PySem.W.typeIn K (.ref ENoLoop) = some (.type "type"))
    (xbNoLoop : PySem.W.subIn K (.ref ENoLoop) (.type "BaseException") = some true)
    (qeLoopError : PySem.W.nsIn K mainGlobals "LoopError" = some (some (.ref ELoopError)))
    (xtLoopError : PySem.W.typeIn K (.ref ELoopError) = some (.type "type"))
    (xbLoopError : PySem.W.subIn K (.ref ELoopError) (.type "BaseException") = some true)
    (xxBadProgram : PySem.W.excIn K EBadProgram [.type "ValueError", .type "Exception", .type "BaseException", .type "object"] "ValueError.__new__" = true)
    (xkBadProgram : PySem.W.keepIn K (.ref EBadProgram) = true)
    (xsBadProgram : PySem.W.subIn K (.ref EBadProgram) (.ref EBadProgram) = some true)
    (xgBadProgram : PySem.W.findIn K (.ref EBadProgram) "__getattribute__" = some (some (.builtin "BaseException.__getattribute__")))
    (xnBadProgram : PySem.W.findIn K (.ref EBadProgram) "__getattr__" = some none)
    (xdBadProgram : PySem.W.hasDictIn K EBadProgram = true)
    (xaBadProgram : PySem.W.findIn K (.ref EBadProgram) "__class__" = some (some (.builtin "object.__class__")))
    (xmBadProgram : PySem.W.mroIn K EBadProgram (.type "object") = some true)
    (xiBadProgram : PySem.W.isClsIn K EBadProgram = true)
    (xiBadFilling : PySem.W.isClsIn K EBadFilling = true)
    (xiNoLoop : PySem.W.isClsIn K ENoLoop = true)
    (xiLoopError : PySem.W.isClsIn K ELoopError = true)
    (xpBadProgram_BadFilling : PySem.W.subIn K (.ref EBadProgram) (.ref EBadFilling) = some false)
    (xpBadProgram_NoLoop : PySem.W.subIn K (.ref EBadProgram) (.ref ENoLoop) = some false)
    (xpBadProgram_LoopError : PySem.W.subIn K (.ref EBadProgram) (.ref ELoopError) = some true)
    (xpBadProgram_ValueError : PySem.W.subIn K (.ref EBadProgram) (.type "ValueError") = some true)
    (xoc : PySem.W.specialIn K (.builtin "object.__class__") "__get__" = some (some (.builtin "getset_descriptor.__get__")))
    (xot : PySem.W.takesIn K (.builtin "object.__class__") = some true)
    (qgProgram : PySem.W.nsIn K mainGlobals "Program" = some (some (.ref CProgram)))
    (a0 : PySem.W.nsIn K mainGlobals "_law_at" = some (some (.ref f0)))
    (l0 : K.lookup f0 = some ⟨oc0, od0, .func (PySem.W.fnOf "_law_at" "_law_at" (defArgs s_l_at) (defBody s_l_at) (defScope s_l_at) .none kV0 dc0 pm0 an0 cd0 ct0), sl0⟩) (c0 : PySem.W.codeIn K cd0 "_law_at" = true) (k0 : PySem.W.keepIn K (.ref f0) = true)
    (a1 : PySem.W.nsIn K mainGlobals "_law_tops" = some (some (.ref f1)))
    (l1 : K.lookup f1 = some ⟨oc1, od1, .func (PySem.W.fnOf "_law_tops" "_law_tops" (defArgs s_l_tops) (defBody s_l_tops) (defScope s_l_tops) .none kV1 dc1 pm1 an1 cd1 ct1), sl1⟩) (c1 : PySem.W.codeIn K cd1 "_law_tops" = true) (k1 : PySem.W.keepIn K (.ref f1) = true)
    (a2 : PySem.W.nsIn K mainGlobals "_law_unit" = some (some (.ref f2)))
    (l2 : K.lookup f2 = some ⟨oc2, od2, .func (PySem.W.fnOf "_law_unit" "_law_unit" (defArgs s_l_unit) (defBody s_l_unit) (defScope s_l_unit) .none kV2 dc2 pm2 an2 cd2 ct2), sl2⟩) (c2 : PySem.W.codeIn K cd2 "_law_unit" = true) (k2 : PySem.W.keepIn K (.ref f2) = true)
    (a3 : PySem.W.nsIn K mainGlobals "_law_word" = some (some (.ref f3)))
    (l3 : K.lookup f3 = some ⟨oc3, od3, .func (PySem.W.fnOf "_law_word" "_law_word" (defArgs s_l_word) (defBody s_l_word) (defScope s_l_word) .none kV3 dc3 pm3 an3 cd3 ct3), sl3⟩) (c3 : PySem.W.codeIn K cd3 "_law_word" = true) (k3 : PySem.W.keepIn K (.ref f3) = true)
    (a4 : PySem.W.nsIn K mainGlobals "_law_into" = some (some (.ref f4)))
    (l4 : K.lookup f4 = some ⟨oc4, od4, .func (PySem.W.fnOf "_law_into" "_law_into" (defArgs s_l_into) (defBody s_l_into) (defScope s_l_into) .none kV4 dc4 pm4 an4 cd4 ct4), sl4⟩) (c4 : PySem.W.codeIn K cd4 "_law_into" = true) (k4 : PySem.W.keepIn K (.ref f4) = true)
    (a5 : PySem.W.nsIn K mainGlobals "_law_row" = some (some (.ref f5)))
    (l5 : K.lookup f5 = some ⟨oc5, od5, .func (PySem.W.fnOf "_law_row" "_law_row" (defArgs s_l_row) (defBody s_l_row) (defScope s_l_row) .none kV5 dc5 pm5 an5 cd5 ct5), sl5⟩) (c5 : PySem.W.codeIn K cd5 "_law_row" = true) (k5 : PySem.W.keepIn K (.ref f5) = true)
    (a6 : PySem.W.nsIn K mainGlobals "_law_rows" = some (some (.ref f6)))
    (l6 : K.lookup f6 = some ⟨oc6, od6, .func (PySem.W.fnOf "_law_rows" "_law_rows" (defArgs s_l_rows) (defBody s_l_rows) (defScope s_l_rows) .none kV6 dc6 pm6 an6 cd6 ct6), sl6⟩) (c6 : PySem.W.codeIn K cd6 "_law_rows" = true) (k6 : PySem.W.keepIn K (.ref f6) = true)
    (a7 : PySem.W.nsIn K mainGlobals "_law_program" = some (some (.ref f7)))
    (l7 : K.lookup f7 = some ⟨oc7, od7, .func (PySem.W.fnOf "_law_program" "_law_program" (defArgs s_l_program) (defBody s_l_program) (defScope s_l_program) .none kV7 dc7 pm7 an7 cd7 ct7), sl7⟩) (c7 : PySem.W.codeIn K cd7 "_law_program" = true) (k7 : PySem.W.keepIn K (.ref f7) = true)
    (a8 : PySem.W.nsIn K mainGlobals "is_among" = some (some (.ref f8)))
    (l8 : K.lookup f8 = some ⟨oc8, od8, .func (PySem.W.fnOf "is_among" "is_among" (defArgs s_is_among) (defBody s_is_among) (defScope s_is_among) .none kV8 dc8 pm8 an8 cd8 ct8), sl8⟩) (c8 : PySem.W.codeIn K cd8 "is_among" = true) (k8 : PySem.W.keepIn K (.ref f8) = true)
    (a9 : PySem.W.nsIn K mainGlobals "are_tops" = some (some (.ref f9)))
    (l9 : K.lookup f9 = some ⟨oc9, od9, .func (PySem.W.fnOf "are_tops" "are_tops" (defArgs s_are_tops) (defBody s_are_tops) (defScope s_are_tops) .none kV9 dc9 pm9 an9 cd9 ct9), sl9⟩) (c9 : PySem.W.codeIn K cd9 "are_tops" = true) (k9 : PySem.W.keepIn K (.ref f9) = true)
    (a10 : PySem.W.nsIn K mainGlobals "is_sum" = some (some (.ref f10)))
    (l10 : K.lookup f10 = some ⟨oc10, od10, .func (PySem.W.fnOf "is_sum" "is_sum" (defArgs s_is_sum) (defBody s_is_sum) (defScope s_is_sum) .none kV10 dc10 pm10 an10 cd10 ct10), sl10⟩) (c10 : PySem.W.codeIn K cd10 "is_sum" = true) (k10 : PySem.W.keepIn K (.ref f10) = true)
    (a11 : PySem.W.nsIn K mainGlobals "are_words" = some (some (.ref f11)))
    (l11 : K.lookup f11 = some ⟨oc11, od11, .func (PySem.W.fnOf "are_words" "are_words" (defArgs s_are_words) (defBody s_are_words) (defScope s_are_words) .none kV11 dc11 pm11 an11 cd11 ct11), sl11⟩) (c11 : PySem.W.codeIn K cd11 "are_words" = true) (k11 : PySem.W.keepIn K (.ref f11) = true)
    (a12 : PySem.W.nsIn K mainGlobals "is_row" = some (some (.ref f12)))
    (l12 : K.lookup f12 = some ⟨oc12, od12, .func (PySem.W.fnOf "is_row" "is_row" (defArgs s_is_row) (defBody s_is_row) (defScope s_is_row) .none kV12 dc12 pm12 an12 cd12 ct12), sl12⟩) (c12 : PySem.W.codeIn K cd12 "is_row" = true) (k12 : PySem.W.keepIn K (.ref f12) = true)
    (a13 : PySem.W.nsIn K mainGlobals "are_rows" = some (some (.ref f13)))
    (l13 : K.lookup f13 = some ⟨oc13, od13, .func (PySem.W.fnOf "are_rows" "are_rows" (defArgs s_are_rows) (defBody s_are_rows) (defScope s_are_rows) .none kV13 dc13 pm13 an13 cd13 ct13), sl13⟩) (c13 : PySem.W.codeIn K cd13 "are_rows" = true) (k13 : PySem.W.keepIn K (.ref f13) = true)
    (a14 : PySem.W.nsIn K mainGlobals "inner_rows" = some (some (.ref f14)))
    (l14 : K.lookup f14 = some ⟨oc14, od14, .func (PySem.W.fnOf "inner_rows" "inner_rows" (defArgs s_inner_rows) (defBody s_inner_rows) (defScope s_inner_rows) .none kV14 dc14 pm14 an14 cd14 ct14), sl14⟩) (c14 : PySem.W.codeIn K cd14 "inner_rows" = true) (k14 : PySem.W.keepIn K (.ref f14) = true)
    (a15 : PySem.W.nsIn K mainGlobals "count" = some (some (.ref f15)))
    (l15 : K.lookup f15 = some ⟨oc15, od15, .func (PySem.W.fnOf "count" "count" (defArgs s_count) (defBody s_count) (defScope s_count) .none kV15 dc15 pm15 an15 cd15 ct15), sl15⟩) (c15 : PySem.W.codeIn K cd15 "count" = true) (k15 : PySem.W.keepIn K (.ref f15) = true)
    (a16 : PySem.W.findIn K (.ref CProgram) "__init__" = some (some (.ref f16))) (i16 : PySem.W.isFn K (.ref f16) = true)
    (l16 : K.lookup f16 = some ⟨oc16, od16, .func (PySem.W.fnOf "__init__" "Program.__init__" (defArgs s_Program_init) (defBody s_Program_init) (defScope s_Program_init) .none kV16 dc16 pm16 an16 cd16 ct16), sl16⟩) (c16 : PySem.W.codeIn K cd16 "Program.__init__" = true) (k16 : PySem.W.keepIn K (.ref f16) = true)
    (a17 : PySem.W.nsIn K mainGlobals "_law_places" = some (some (.ref f17)))
    (l17 : K.lookup f17 = some ⟨oc17, od17, .func (PySem.W.fnOf "_law_places" "_law_places" (defArgs s_l_places) (defBody s_l_places) (defScope s_l_places) .none kV17 dc17 pm17 an17 cd17 ct17), sl17⟩) (c17 : PySem.W.codeIn K cd17 "_law_places" = true) (k17 : PySem.W.keepIn K (.ref f17) = true)
    (a18 : PySem.W.nsIn K mainGlobals "_law_changed" = some (some (.ref f18)))
    (l18 : K.lookup f18 = some ⟨oc18, od18, .func (PySem.W.fnOf "_law_changed" "_law_changed" (defArgs s_l_changed) (defBody s_l_changed) (defScope s_l_changed) .none kV18 dc18 pm18 an18 cd18 ct18), sl18⟩) (c18 : PySem.W.codeIn K cd18 "_law_changed" = true) (k18 : PySem.W.keepIn K (.ref f18) = true)
    (a19 : PySem.W.nsIn K mainGlobals "_law_bad_sum" = some (some (.ref f19)))
    (l19 : K.lookup f19 = some ⟨oc19, od19, .func (PySem.W.fnOf "_law_bad_sum" "_law_bad_sum" (defArgs s_l_bad_sum) (defBody s_l_bad_sum) (defScope s_l_bad_sum) .none kV19 dc19 pm19 an19 cd19 ct19), sl19⟩) (c19 : PySem.W.codeIn K cd19 "_law_bad_sum" = true) (k19 : PySem.W.keepIn K (.ref f19) = true)
    (a20 : PySem.W.nsIn K mainGlobals "_law_bad_row" = some (some (.ref f20)))
    (l20 : K.lookup f20 = some ⟨oc20, od20, .func (PySem.W.fnOf "_law_bad_row" "_law_bad_row" (defArgs s_l_bad_row) (defBody s_l_bad_row) (defScope s_l_bad_row) .none kV20 dc20 pm20 an20 cd20 ct20), sl20⟩) (c20 : PySem.W.codeIn K cd20 "_law_bad_row" = true) (k20 : PySem.W.keepIn K (.ref f20) = true)
    (a21 : PySem.W.nsIn K mainGlobals "_law_bad" = some (some (.ref f21)))
    (l21 : K.lookup f21 = some ⟨oc21, od21, .func (PySem.W.fnOf "_law_bad" "_law_bad" (defArgs s_l_bad) (defBody s_l_bad) (defScope s_l_bad) .none kV21 dc21 pm21 an21 cd21 ct21), sl21⟩) (c21 : PySem.W.codeIn K cd21 "_law_bad" = true) (k21 : PySem.W.keepIn K (.ref f21) = true)
    (a22 : PySem.W.nsIn K mainGlobals "_law_refused" = some (some (.ref f22)))
    (l22 : K.lookup f22 = some ⟨oc22, od22, .func (PySem.W.fnOf "_law_refused" "_law_refused" (defArgs s_l_refused) (defBody s_l_refused) (defScope s_l_refused) .none kV22 dc22 pm22 an22 cd22 ct22), sl22⟩) (c22 : PySem.W.codeIn K cd22 "_law_refused" = true) (k22 : PySem.W.keepIn K (.ref f22) = true)
    (a23 : PySem.W.nsIn K mainGlobals "is_within" = some (some (.ref f23)))
    (l23 : K.lookup f23 = some ⟨oc23, od23, .func (PySem.W.fnOf "is_within" "is_within" (defArgs s_is_within) (defBody s_is_within) (defScope s_is_within) .none kV23 dc23 pm23 an23 cd23 ct23), sl23⟩) (c23 : PySem.W.codeIn K cd23 "is_within" = true) (k23 : PySem.W.keepIn K (.ref f23) = true)
    (a24 : PySem.W.nsIn K mainGlobals "loops_in" = some (some (.ref f24)))
    (l24 : K.lookup f24 = some ⟨oc24, od24, .func (PySem.W.fnOf "loops_in" "loops_in" (defArgs s_loops_in) (defBody s_loops_in) (defScope s_loops_in) .none kV24 dc24 pm24 an24 cd24 ct24), sl24⟩) (c24 : PySem.W.codeIn K cd24 "loops_in" = true) (k24 : PySem.W.keepIn K (.ref f24) = true)
    (a25 : PySem.W.findIn K (.ref CProgram) "loops" = some (some (.ref f25))) (i25 : PySem.W.isFn K (.ref f25) = true)
    (l25 : K.lookup f25 = some ⟨oc25, od25, .func (PySem.W.fnOf "loops" "Program.loops" (defArgs s_Program_loops) (defBody s_Program_loops) (defScope s_Program_loops) .none kV25 dc25 pm25 an25 cd25 ct25), sl25⟩) (c25 : PySem.W.codeIn K cd25 "Program.loops" = true) (k25 : PySem.W.keepIn K (.ref f25) = true)
    (a26 : PySem.W.findIn K (.ref CProgram) "row" = some (some (.ref f26))) (i26 : PySem.W.isFn K (.ref f26) = true)
    (l26 : K.lookup f26 = some ⟨oc26, od26, .func (PySem.W.fnOf "row" "Program.row" (defArgs s_Program_row) (defBody s_Program_row) (defScope s_Program_row) .none kV26 dc26 pm26 an26 cd26 ct26), sl26⟩) (c26 : PySem.W.codeIn K cd26 "Program.row" = true) (k26 : PySem.W.keepIn K (.ref f26) = true)
    (a27 : PySem.W.nsIn K mainGlobals "_law_right" = some (some (.ref f27)))
    (l27 : K.lookup f27 = some ⟨oc27, od27, .func (PySem.W.fnOf "_law_right" "_law_right" (defArgs s_l_right) (defBody s_l_right) (defScope s_l_right) .none kV27 dc27 pm27 an27 cd27 ct27), sl27⟩) (c27 : PySem.W.codeIn K cd27 "_law_right" = true) (k27 : PySem.W.keepIn K (.ref f27) = true)
    (a28 : PySem.W.nsIn K mainGlobals "law" = some (some (.ref f28)))
    (l28 : K.lookup f28 = some ⟨oc28, od28, .func (PySem.W.fnOf "law" "law" (defArgs s_law02) (defBody s_law02) (defScope s_law02) .none kV28 dc28 pm28 an28 cd28 ct28), sl28⟩) (c28 : PySem.W.codeIn K cd28 "law" = true) (k28 : PySem.W.keepIn K (.ref f28) = true)
    (pgProgram : PySem.W.plainGet K CProgram Str.empty = true) (hdProgram : PySem.W.hasDictIn K CProgram = true) (poProgram : PySem.W.plainOver K CProgram = true) (saProgram : PySem.W.findIn K (.ref CProgram) "__setattr__" = some (some (.builtin "object.__setattr__"))) (mkProgram : PySem.W.makesIn K CProgram = true) (kcProgram : PySem.W.keepIn K (.ref CProgram) = true)
    (nProgram_tops : PySem.W.findIn K (.ref CProgram) "tops" = some none)
    (nProgram_rows : PySem.W.findIn K (.ref CProgram) "rows" = some none)
    (z_ValueError : PySem.W.nsIn K mainGlobals "ValueError" = some none)
    (z_len : PySem.W.nsIn K mainGlobals "len" = some none)
    (z_range : PySem.W.nsIn K mainGlobals "range" = some none)
    (z_tuple : PySem.W.nsIn K mainGlobals "tuple" = some none)
    (z_list : PySem.W.nsIn K mainGlobals "list" = some none)
    (z_isinstance : PySem.W.nsIn K mainGlobals "isinstance" = some none)
    (z_int : PySem.W.nsIn K mainGlobals "int" = some none)
    (z_bool : PySem.W.nsIn K mainGlobals "bool" = some none)
    (z_zip : PySem.W.nsIn K mainGlobals "zip" = some none)
    (z_MOST_BOXES : PySem.W.nsIn K mainGlobals "MOST_BOXES" = some (some (.int 3 tkMOST_BOXES)))
    (z_MOST_TOP : PySem.W.nsIn K mainGlobals "MOST_TOP" = some (some (.int 9 tkMOST_TOP)))
    (z_MOST_MORE : PySem.W.nsIn K mainGlobals "MOST_MORE" = some (some (.int 99 tkMOST_MORE)))
    (z_MOST_NUMBER : PySem.W.nsIn K mainGlobals "MOST_NUMBER" = some (some (.int 9 tkMOST_NUMBER)))
    (z_MOST_WORDS : PySem.W.nsIn K mainGlobals "MOST_WORDS" = some (some (.int 3 tkMOST_WORDS)))
    (z_MOST_ROWS : PySem.W.nsIn K mainGlobals "MOST_ROWS" = some (some (.int 12 tkMOST_ROWS)))
    (z_MOST_DEEP : PySem.W.nsIn K mainGlobals "MOST_DEEP" = some (some (.int 3 tkMOST_DEEP)))
    : ∃ fd : FuncData, (∀ (s : Shared) (v : Value), BindsTo s fd ⟨[v], []⟩ [("_law_script", v)]) ∧ ∀ base : Heap, K.In base → base.Ns mainGlobals mg → FnOk l.prog w K mg base CX0 15 fa fd ["_law_script"] (spLaw K) := by
  have e := hfa.symm.trans (PySem.W.mg_of X G a28)
  cases e
  have F0 := fun_mk (st := s_l_at) l0 c0 k0
  have B0 := F0.binds (ps := ["_law_script", "_law_k"]) fun _ _ _ _ _ _ us hl => match us, hl with | [_, _], _ => rfl
  have F1 := fun_mk (st := s_l_tops) l1 c1 k1
  have B1 := F1.binds (ps := ["_law_script"]) fun _ _ _ _ _ _ us hl => match us, hl with | [_], _ => rfl
  have F2 := fun_mk (st := s_l_unit) l2 c2 k2
  have B2 := F2.binds (ps := ["_law_many", "_law_box", "_law_number", "_law_more"]) fun _ _ _ _ _ _ us hl => match us, hl with | [_, _, _, _], _ => rfl
  have F3 := fun_mk (st := s_l_word) l3 c3 k3
  have B3 := F3.binds (ps := ["_law_cell", "_law_many"]) fun _ _ _ _ _ _ us hl => match us, hl with | [_, _], _ => rfl
  have F4 := fun_mk (st := s_l_into) l4 c4 k4
  have B4 := F4.binds (ps := ["_law_cell", "_law_many", "_law_box"]) fun _ _ _ _ _ _ us hl => match us, hl with | [_, _, _], _ => rfl
  have F5 := fun_mk (st := s_l_row) l5 c5 k5
  have B5 := F5.binds (ps := ["_law_state", "_law_deep"]) fun _ _ _ _ _ _ us hl => match us, hl with | [_, _], _ => rfl
  have F6 := fun_mk (st := s_l_rows) l6 c6 k6
  have B6 := F6.binds (ps := ["_law_state", "_law_deep", "_law_most"]) fun _ _ _ _ _ _ us hl => match us, hl with | [_, _, _], _ => rfl
  have F7 := fun_mk (st := s_l_program) l7 c7 k7
  have B7 := F7.binds (ps := ["_law_script", "_law_most"]) fun _ _ _ _ _ _ us hl => match us, hl with | [_, _], _ => rfl
  have F8 := fun_mk (st := s_is_among) l8 c8 k8
  have B8 := F8.binds (ps := ["thing", "least", "most"]) fun _ _ _ _ _ _ us hl => match us, hl with | [_, _, _], _ => rfl
  have F9 := fun_mk (st := s_are_tops) l9 c9 k9
  have B9 := F9.binds (ps := ["thing"]) fun _ _ _ _ _ _ us hl => match us, hl with | [_], _ => rfl
  have F10 := fun_mk (st := s_is_sum) l10 c10 k10
  have B10 := F10.binds (ps := ["thing", "many"]) fun _ _ _ _ _ _ us hl => match us, hl with | [_, _], _ => rfl
  have F11 := fun_mk (st := s_are_words) l11 c11 k11
  have B11 := F11.binds (ps := ["thing", "many"]) fun _ _ _ _ _ _ us hl => match us, hl with | [_, _], _ => rfl
  have F12 := fun_mk (st := s_is_row) l12 c12 k12
  have B12 := F12.binds (ps := ["thing", "many", "deep"]) fun _ _ _ _ _ _ us hl => match us, hl with | [_, _, _], _ => rfl
  have F13 := fun_mk (st := s_are_rows) l13 c13 k13
  have B13 := F13.binds (ps := ["thing", "many", "deep"]) fun _ _ _ _ _ _ us hl => match us, hl with | [_, _, _], _ => rfl
  have F14 := fun_mk (st := s_inner_rows) l14 c14 k14
  have B14 := F14.binds (ps := ["row"]) fun _ _ _ _ _ _ us hl => match us, hl with | [_], _ => rfl
  have F15 := fun_mk (st := s_count) l15 c15 k15
  have B15 := F15.binds (ps := ["rows"]) fun _ _ _ _ _ _ us hl => match us, hl with | [_], _ => rfl
  have F16 := fun_mk (st := s_Program_init) l16 c16 k16
  have B16 := F16.binds (ps := ["self", "tops", "rows"]) fun _ _ _ _ _ _ us hl => match us, hl with | [_, _, _], _ => rfl
  have F17 := fun_mk (st := s_l_places) l17 c17 k17
  have B17 := F17.binds (ps := ["_law_rows_here", "_law_ahead"]) fun _ _ _ _ _ _ us hl => match us, hl with | [_, _], _ => rfl
  have F18 := fun_mk (st := s_l_changed) l18 c18 k18
  have B18 := F18.binds (ps := ["_law_rows_here", "_law_place", "_law_row_here"]) fun _ _ _ _ _ _ us hl => match us, hl with | [_, _, _], _ => rfl
  have F19 := fun_mk (st := s_l_bad_sum) l19 c19 k19
  have B19 := F19.binds (ps := ["_law_cell", "_law_one"]) fun _ _ _ _ _ _ us hl => match us, hl with | [_, _], _ => rfl
  have F20 := fun_mk (st := s_l_bad_row) l20 c20 k20
  have B20 := F20.binds (ps := ["_law_cell", "_law_row_here", "_law_many"]) fun _ _ _ _ _ _ us hl => match us, hl with | [_, _, _], _ => rfl
  have F21 := fun_mk (st := s_l_bad) l21 c21 k21
  have B21 := F21.binds (ps := ["_law_cell", "_law_tops_here", "_law_rows_here"]) fun _ _ _ _ _ _ us hl => match us, hl with | [_, _, _], _ => rfl
  have F22 := fun_mk (st := s_l_refused) l22 c22 k22
  have B22 := F22.binds (ps := ["_law_tops_here", "_law_rows_here"]) fun _ _ _ _ _ _ us hl => match us, hl with | [_, _], _ => rfl
  have F23 := fun_mk (st := s_is_within) l23 c23 k23
  have B23 := F23.binds (ps := ["program", "filling"]) fun _ _ _ _ _ _ us hl => match us, hl with | [_, _], _ => rfl
  have F24 := fun_mk (st := s_loops_in) l24 c24 k24
  have B24 := F24.binds (ps := ["rows", "ahead"]) fun _ _ _ _ _ _ us hl => match us, hl with | [_, _], _ => rfl
  have F25 := fun_mk (st := s_Program_loops) l25 c25 k25
  have B25 := F25.binds (ps := ["self"]) fun _ _ _ _ _ _ us hl => match us, hl with | [_], _ => rfl
  have F26 := fun_mk (st := s_Program_row) l26 c26 k26
  have B26 := F26.binds (ps := ["self", "place"]) fun _ _ _ _ _ _ us hl => match us, hl with | [_, _], _ => rfl
  have F27 := fun_mk (st := s_l_right) l27 c27 k27
  have B27 := F27.binds (ps := ["_law_program_here", "_law_tops_here", "_law_rows_here", "_law_kept"]) fun _ _ _ _ _ _ us hl => match us, hl with | [_, _, _, _], _ => rfl
  have F28 := fun_mk (st := s_law02) l28 c28 k28
  have B28 := F28.binds (ps := ["_law_script"]) fun _ _ _ _ _ _ us hl => match us, hl with | [_], _ => rfl
  let T : Txt K mg := { b_ValueError := PySem.W.mg_none_of X G z_ValueError, b_len := PySem.W.mg_none_of X G z_len, b_range := PySem.W.mg_none_of X G z_range, b_tuple := PySem.W.mg_none_of X G z_tuple, b_list := PySem.W.mg_none_of X G z_list, b_isinstance := PySem.W.mg_none_of X G z_isinstance, b_int := PySem.W.mg_none_of X G z_int, b_bool := PySem.W.mg_none_of X G z_bool, b_zip := PySem.W.mg_none_of X G z_zip, t_MOST_BOXES := tkMOST_BOXES, c_MOST_BOXES := PySem.W.mg_of X G z_MOST_BOXES, t_MOST_TOP := tkMOST_TOP, c_MOST_TOP := PySem.W.mg_of X G z_MOST_TOP, t_MOST_MORE := tkMOST_MORE, c_MOST_MORE := PySem.W.mg_of X G z_MOST_MORE, t_MOST_NUMBER := tkMOST_NUMBER, c_MOST_NUMBER := PySem.W.mg_of X G z_MOST_NUMBER, t_MOST_WORDS := tkMOST_WORDS, c_MOST_WORDS := PySem.W.mg_of X G z_MOST_WORDS, t_MOST_ROWS := tkMOST_ROWS, c_MOST_ROWS := PySem.W.mg_of X G z_MOST_ROWS, t_MOST_DEEP := tkMOST_DEEP, c_MOST_DEEP := PySem.W.mg_of X G z_MOST_DEEP, d_l_at := ⟨f0, _, F0, B0⟩, g_l_at := PySem.W.mg_of X G a0, d_l_tops := ⟨f1, _, F1, B1⟩, g_l_tops := PySem.W.mg_of X G a1, d_l_unit := ⟨f2, _, F2, B2⟩, g_l_unit := PySem.W.mg_of X G a2, d_l_word := ⟨f3, _, F3, B3⟩, g_l_word := PySem.W.mg_of X G a3, d_l_into := ⟨f4, _, F4, B4⟩, g_l_into := PySem.W.mg_of X G a4, d_l_row := ⟨f5, _, F5, B5⟩, g_l_row := PySem.W.mg_of X G a5, d_l_rows := ⟨f6, _, F6, B6⟩, g_l_rows := PySem.W.mg_of X G a6, d_l_program := ⟨f7, _, F7, B7⟩, g_l_program := PySem.W.mg_of X G a7, d_is_among := ⟨f8, _, F8, B8⟩, g_is_among := PySem.W.mg_of X G a8, d_are_tops := ⟨f9, _, F9, B9⟩, g_are_tops := PySem.W.mg_of X G a9, d_is_sum := ⟨f10, _, F10, B10⟩, g_is_sum := PySem.W.mg_of X G a10, d_are_words := ⟨f11, _, F11, B11⟩, g_are_words := PySem.W.mg_of X G a11, d_is_row := ⟨f12, _, F12, B12⟩, g_is_row := PySem.W.mg_of X G a12, d_are_rows := ⟨f13, _, F13, B13⟩, g_are_rows := PySem.W.mg_of X G a13, d_inner_rows := ⟨f14, _, F14, B14⟩, g_inner_rows := PySem.W.mg_of X G a14, d_count := ⟨f15, _, F15, B15⟩, g_count := PySem.W.mg_of X G a15, d_Program_init := ⟨f16, _, F16, B16⟩, d_l_places := ⟨f17, _, F17, B17⟩, g_l_places := PySem.W.mg_of X G a17, d_l_changed := ⟨f18, _, F18, B18⟩, g_l_changed := PySem.W.mg_of X G a18, d_l_bad_sum := ⟨f19, _, F19, B19⟩, g_l_bad_sum := PySem.W.mg_of X G a19, d_l_bad_row := ⟨f20, _, F20, B20⟩, g_l_bad_row := PySem.W.mg_of X G a20, d_l_bad := ⟨f21, _, F21, B21⟩, g_l_bad := PySem.W.mg_of X G a21, d_l_refused := ⟨f22, _, F22, B22⟩, g_l_refused := PySem.W.mg_of X G a22, d_is_within := ⟨f23, _, F23, B23⟩, g_is_within := PySem.W.mg_of X G a23, d_loops_in := ⟨f24, _, F24, B24⟩, g_loops_in := PySem.W.mg_of X G a24, d_Program_loops := ⟨f25, _, F25, B25⟩, d_Program_row := ⟨f26, _, F26, B26⟩, d_l_right := ⟨f27, _, F27, B27⟩, g_l_right := PySem.W.mg_of X G a27, d_law02 := ⟨fa, _, F28, B28⟩, aProgram := CProgram, clProgram := ⟨pgProgram, hdProgram, poProgram, saProgram⟩, gProgram := PySem.W.mg_of X G qgProgram, mkProgram := ⟨mkProgram, a16, i16, kcProgram⟩, aBadProgram := EBadProgram, c_BadProgram := PySem.W.mg_of X G qeBadProgram, aBadFilling := EBadFilling, c_BadFilling := PySem.W.mg_of X G qeBadFilling, aNoLoop := ENoLoop, c_NoLoop := PySem.W.mg_of X G qeNoLoop, aLoopError := ELoopError, c_LoopError := PySem.W.mg_of X G qeLoopError, xBadProgram := ⟨xxBadProgram, xkBadProgram, xbBadProgram, xtBadProgram, xsBadProgram, ⟨xgBadProgram, xnBadProgram, xbBadProgram, xdBadProgram, xaBadProgram, xoc, xot, xmBadProgram⟩⟩, nBadProgram := ⟨xiBadProgram, xtBadProgram, xbBadProgram⟩, nBadFilling := ⟨xiBadFilling, xtBadFilling, xbBadFilling⟩, nNoLoop := ⟨xiNoLoop, xtNoLoop, xbNoLoop⟩, nLoopError := ⟨xiLoopError, xtLoopError, xbLoopError⟩, sBadProgram_BadFilling := xpBadProgram_BadFilling, sBadProgram_NoLoop := xpBadProgram_NoLoop, sBadProgram_LoopError := xpBadProgram_LoopError, sBadProgram_ValueError := xpBadProgram_ValueError, naProgram_tops := nProgram_tops, naProgram_rows := nProgram_rows, meProgram_loops := ⟨a25, i25, k25⟩, meProgram_row := ⟨a26, i26, k26⟩ }
  exact ⟨_, fun s v => .of_eq rfl, fun base _ _ => law_of (ok_law02 T)⟩
theorem walk {l : PySem.W.OpenLaw} {q : Program} {loose : List Str} {XP : (Str → Option Value) → Heap → Prop} {YP : World → Heap → Prop} {d : DefRec} {K : Params → PySem.W.Frag} (hn : l.most = some 63) (hdf : d.params.defaults = [])
    (hY : ∀ (w : World) (h : Heap), YP w h → (K w.params).In h)
    (F : ∀ (w : World) (mg : Str → Option Value) (fa : Addr) (h : Heap), (K w.params).In h → h.Ns mainGlobals mg → mg d.name = some (.ref fa) →
      ∃ fd : FuncData, (∀ (s : Shared) (u : Value), BindsTo s fd ⟨[u], []⟩ [("_law_script", u)]) ∧ ∀ base : Heap, (K w.params).In base → base.Ns mainGlobals mg → FnOk l.prog w (K w.params) mg base CX0 15 fa fd ["_law_script"] (spLaw (K w.params))) :
    PySem.W.WalkO q loose XP YP l.row.toRowW d [] (fun f vs => PySem.call f vs) :=
  L2.walk_of (n := 63) (k := 15) (x := "_law_script") (CX := fun _ => CX0) (sp := fun w => spLaw (K w.params)) hn (by decide) hdf ⟨rfl, by decide, by decide⟩ hY F (fun _ _ a ns hl _ hS => ⟨a, ns, rfl, hS, hl, fun _ => rfl⟩) fun _ _ _ _ _ z => z
end DL
open PySem PySem.W PyProof.Rows
set_option maxRecDepth 100000 in
set_option maxHeartbeats 0 in
theorem PySem.Challenge.cw_loopwords_k02_programs_holds : PySem.Challenge.rw_loopwords_k02_programs.Holds := by
  w_on; o_law; k_head; (case hw => w_witness2)
  k_fill
  refine DL.walk (l := PySem.Challenge.rw_loopwords_k02_programs) rfl rfl (fun w h Y => PySem.W.kIn_of Y) ?F
  case F =>
    intro w mg fa h KX G hmg
    refine' DL.all_mk KX G hmg ?qeBadProgram ?xtBadProgram ?xbBadProgram ?qeBadFilling ?xtBadFilling ?xbBadFilling ?qeNoLoop ?xtNoLoop ?xbNoLoop ?qeLoopError ?xtLoopError ?xbLoopError ?xxBadProgram ?xkBadProgram ?xsBadProgram ?xgBadProgram ?xnBadProgram ?xdBadProgram ?xaBadProgram ?xmBadProgram ?xiBadProgram ?xiBadFilling ?xiNoLoop ?xiLoopError ?xpBadProgram_BadFilling ?xpBadProgram_NoLoop ?xpBadProgram_LoopError ?xpBadProgram_ValueError ?xoc ?xot ?qgProgram ?a0 ?l0 ?c0 ?k0 ?a1 ?l1 ?c1 ?k1 ?a2 ?l2 ?c2 ?k2 ?a3 ?l3 ?c3 ?k3 ?a4 ?l4 ?c4 ?k4 ?a5 ?l5 ?c5 ?k5 ?a6 ?l6 ?c6 ?k6 ?a7 ?l7 ?c7 ?k7 ?a8 ?l8 ?c8 ?k8 ?a9 ?l9 ?c9 ?k9 ?a10 ?l10 ?c10 ?k10 ?a11 ?l11 ?c11 ?k11 ?a12 ?l12 ?c12 ?k12 ?a13 ?l13 ?c13 ?k13 ?a14 ?l14 ?c14 ?k14 ?a15 ?l15 ?c15 ?k15 ?a16 ?i16 ?l16 ?c16 ?k16 ?a17 ?l17 ?c17 ?k17 ?a18 ?l18 ?c18 ?k18 ?a19 ?l19 ?c19 ?k19 ?a20 ?l20 ?c20 ?k20 ?a21 ?l21 ?c21 ?k21 ?a22 ?l22 ?c22 ?k22 ?a23 ?l23 ?c23 ?k23 ?a24 ?l24 ?c24 ?k24 ?a25 ?i25 ?l25 ?c25 ?k25 ?a26 ?i26 ?l26 ?c26 ?k26 ?a27 ?l27 ?c27 ?k27 ?a28 ?l28 ?c28 ?k28 ?pgProgram ?hdProgram ?poProgram ?saProgram ?mkProgram ?kcProgram ?nProgram_tops ?nProgram_rows ?z_ValueError ?z_len ?z_range ?z_tuple ?z_list ?z_isinstance ?z_int ?z_bool ?z_zip ?z_MOST_BOXES ?z_MOST_TOP ?z_MOST_MORE ?z_MOST_NUMBER ?z_MOST_WORDS ?z_MOST_ROWS ?z_MOST_DEEP
    (case qeBadProgram => k_is); (case xtBadProgram => k_is); (case xbBadProgram => k_is); (case qeBadFilling => k_is); (case xtBadFilling => k_is); (case xbBadFilling => k_is); (case qeNoLoop => k_is); (case xtNoLoop => k_is)
    (case xbNoLoop => k_is); (case qeLoopError => k_is); (case xtLoopError => k_is); (case xbLoopError => k_is); (case xxBadProgram => k_exc); (case xkBadProgram => k_is); (case xsBadProgram => first | rfl | k_is); (case xgBadProgram => k_is)
    (case xnBadProgram => k_is); (case xdBadProgram => k_is); (case xaBadProgram => k_is); (case xmBadProgram => k_is); (case xiBadProgram => k_is); (case xiBadFilling => k_is); (case xiNoLoop => k_is); (case xiLoopError => k_is)
    (case xpBadProgram_BadFilling => first | rfl | k_is); (case xpBadProgram_NoLoop => first | rfl | k_is); (case xpBadProgram_LoopError => first | rfl | k_is); (case xpBadProgram_ValueError => first | rfl | k_is); (case xoc => k_is); (case xot => k_is); (case qgProgram => k_is); (case a0 => k_is)
    (case l0 => k_is); (case c0 => k_is); (case k0 => k_is); (case a1 => k_is); (case l1 => k_is); (case c1 => k_is); (case k1 => k_is); (case a2 => k_is)
    (case l2 => k_is); (case c2 => k_is); (case k2 => k_is); (case a3 => k_is); (case l3 => k_is); (case c3 => k_is); (case k3 => k_is); (case a4 => k_is)
    (case l4 => k_is); (case c4 => k_is); (case k4 => k_is); (case a5 => k_is); (case l5 => k_is); (case c5 => k_is); (case k5 => k_is); (case a6 => k_is)
    (case l6 => k_is); (case c6 => k_is); (case k6 => k_is); (case a7 => k_is); (case l7 => k_is); (case c7 => k_is); (case k7 => k_is); (case a8 => k_is)
    (case l8 => k_is); (case c8 => k_is); (case k8 => k_is); (case a9 => k_is); (case l9 => k_is); (case c9 => k_is); (case k9 => k_is); (case a10 => k_is)
    (case l10 => k_is); (case c10 => k_is); (case k10 => k_is); (case a11 => k_is); (case l11 => k_is); (case c11 => k_is); (case k11 => k_is); (case a12 => k_is)
    (case l12 => k_is); (case c12 => k_is); (case k12 => k_is); (case a13 => k_is); (case l13 => k_is); (case c13 => k_is); (case k13 => k_is); (case a14 => k_is)
    (case l14 => k_is); (case c14 => k_is); (case k14 => k_is); (case a15 => k_is); (case l15 => k_is); (case c15 => k_is); (case k15 => k_is); (case a16 => k_is)
    (case i16 => k_is); (case l16 => k_is); (case c16 => k_is); (case k16 => k_is); (case a17 => k_is); (case l17 => k_is); (case c17 => k_is); (case k17 => k_is)
    (case a18 => k_is); (case l18 => k_is); (case c18 => k_is); (case k18 => k_is); (case a19 => k_is); (case l19 => k_is); (case c19 => k_is); (case k19 => k_is)
    (case a20 => k_is); (case l20 => k_is); (case c20 => k_is); (case k20 => k_is); (case a21 => k_is); (case l21 => k_is); (case c21 => k_is); (case k21 => k_is)
    (case a22 => k_is); (case l22 => k_is); (case c22 => k_is); (case k22 => k_is); (case a23 => k_is); (case l23 => k_is); (case c23 => k_is); (case k23 => k_is)
    (case a24 => k_is); (case l24 => k_is); (case c24 => k_is); (case k24 => k_is); (case a25 => k_is); (case i25 => k_is); (case l25 => k_is); (case c25 => k_is)
    (case k25 => k_is); (case a26 => k_is); (case i26 => k_is); (case l26 => k_is); (case c26 => k_is); (case k26 => k_is); (case a27 => k_is); (case l27 => k_is)
    (case c27 => k_is); (case k27 => k_is); (case a28 => k_is); (case l28 => k_is); (case c28 => k_is); (case k28 => k_is); (case pgProgram => k_is); (case hdProgram => k_is)
    (case poProgram => k_is); (case saProgram => k_is); (case mkProgram => k_is); (case kcProgram => k_is); (case nProgram_tops => k_is); (case nProgram_rows => k_is); (case z_ValueError => k_is); (case z_len => k_is)
    (case z_range => k_is); (case z_tuple => k_is); (case z_list => k_is); (case z_isinstance => k_is); (case z_int => k_is); (case z_bool => k_is); (case z_zip => k_is); (case z_MOST_BOXES => k_is)
    (case z_MOST_TOP => k_is); (case z_MOST_MORE => k_is); (case z_MOST_NUMBER => k_is); (case z_MOST_WORDS => k_is); (case z_MOST_ROWS => k_is); (case z_MOST_DEEP => k_is)
#print axioms PySem.Challenge.cw_loopwords_k02_programs_holds
