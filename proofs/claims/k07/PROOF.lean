import PyProof.Rows.All
import Wide.All
import OpenK.AllK
import Wide.FinOn
import HandS.ForMost
import HandS.ForExc
import HandS.Deep
import HandS.Zip
import HandS.TupAny
import HandS.TupMul
import HandS.IsInst
import HandS.Style
import HandS.Wide
import KE.GoesZip
import PySem.Challenge.RW_loopwords_k07_whole_trees
set_option Elab.async false
set_option linter.all false
set_option maxRecDepth 100000
set_option maxHeartbeats 4000000
/-! DL, part a: data without addresses (D), what stands for it in an abstract heap (Rep, Hol), readings over data. -/
namespace DL
open PySem L2

/-- a datum: scalars, tuples, lists that no one changes any more, instances that no one changes any more, the script, a thing that may change (by its number), another address -/
inductive D where
  | non | bl (b : Bool) | int (i : Int) | str (s : Str)
  | tup (ds : List D) | lst (ds : List D)
  | ins (C : Addr) (gs : List (Str × D))
  | scr (ns : List Int) | own (h : Nat) | ref (a : Addr)
/-- what stands under a number -/
inductive DO where
  | lst (ds : List D) | dic (gs : List (Str × D)) | ins (C : Addr) (gs : List (Str × D))
abbrev Own := List (Option DO)
abbrev DSt := List (Option D)

section
variable (K : PySem.W.Frag) (F : Hp) (m : List Addr)
mutual
inductive Rep : V → D → Prop
  | non : Rep .non .non
  | bl (b : Bool) : Rep (.bl b) (.bl b)
  | int (i : Int) : Rep (.int i) (.int i)
  | str (s : Str) : Rep (.str s) (.str s)
  | tup {a : Addr} {xs : List V} {ds : List D} (h : F a = some (.tup xs)) (r : RepL xs ds) : Rep (.ref a) (.tup ds)
  | lst {a : Addr} {xs : List V} {ds : List D} (h : F a = some (.lst xs)) (r : RepL xs ds) : Rep (.ref a) (.lst ds)
  | ins {a C dx : Addr} {fs : List (Str × V)} {gs : List (Str × D)} (h : F a = some (.ins C dx fs)) (r : RepF fs gs) : Rep (.ref a) (.ins C gs)
  | scr {a : Addr} {ns : List Int} (h : SqL K F a (ns.map V.int)) : Rep (.ref a) (.scr ns)
  | own {h : Nat} {a : Addr} (e : m[h]? = some a) : Rep (.ref a) (.own h)
  | ref (a : Addr) : Rep (.ref a) (.ref a)
inductive RepL : List V → List D → Prop
  | nil : RepL [] []
  | cons {v : V} {d : D} {vs : List V} {ds : List D} (r : Rep v d) (t : RepL vs ds) : RepL (v :: vs) (d :: ds)
inductive RepF : List (Str × V) → List (Str × D) → Prop
  | nil : RepF [] []
  | cons {n : Str} {v : V} {d : D} {vs : List (Str × V)} {ds : List (Str × D)} (r : Rep v d) (t : RepF vs ds) : RepF ((n, v) :: vs) ((n, d) :: ds)
end
/-- the pairs of a dict with text keys -/
inductive RepK : List (Key × V) → List (Str × D) → Prop
  | nil : RepK [] []
  | cons {n : Str} {v : V} {d : D} {vs : List (Key × V)} {ds : List (Str × D)} (r : Rep K F m v d) (t : RepK vs ds) : RepK ((Sum.inr n, v) :: vs) ((n, d) :: ds)
inductive RepO : HO → DO → Prop
  | lst {xs : List V} {ds : List D} (r : RepL K F m xs ds) : RepO (.lst xs) (.lst ds)
  | dic {kvs : List (Key × V)} {gs : List (Str × D)} (r : RepK K F m kvs gs) : RepO (.dK kvs) (.dic gs)
  | ins {C dx : Addr} {fs : List (Str × V)} {gs : List (Str × D)} (r : RepF K F m fs gs) : RepO (.ins C dx fs) (.ins C gs)
end

/-- more is known -/
structure Sub (F : Hp) (m : List Addr) (F' : Hp) (m' : List Addr) : Prop where
  ex : ∀ a o, F a = some o → F' a = some o
  pre : m <+: m'
theorem Sub.refl {F : Hp} {m : List Addr} : Sub F m F m := ⟨fun _ _ h => h, List.prefix_refl _⟩
theorem Sub.trans {F F' F'' : Hp} {m m' m'' : List Addr} (a : Sub F m F' m') (b : Sub F' m' F'' m'') : Sub F m F'' m'' := ⟨fun x o h => b.ex x o (a.ex x o h), a.pre.trans b.pre⟩
theorem pre_get {α : Type} {l l' : List α} {i : Nat} {a : α} (p : l <+: l') (h : l[i]? = some a) : l'[i]? = some a := by
  obtain ⟨r, rfl⟩ := p
  obtain ⟨hi, e⟩ := List.getElem?_eq_some_iff.mp h
  rw [List.getElem?_append_left hi]
  exact h

section
variable {K : PySem.W.Frag} {F F' : Hp} {m m' : List Addr}
theorem sqL_mono (s : ∀ a o, F a = some o → F' a = some o) {a : Addr} {xs : List V} (h : SqL K F a xs) : SqL K F' a xs := by
  rcases h with (h | ⟨o, h⟩) | h
  · exact .inl (.inl (s _ _ h))
  · exact .inl (.inr ⟨o, s _ _ h⟩)
  · exact .inr h
mutual
theorem Rep.mono0 (s : Sub F m F' m') : ∀ {v : V} {d : D}, Rep K F m v d → Rep K F' m' v d
  | _, _, .non => .non
  | _, _, .bl b => .bl b
  | _, _, .int i => .int i
  | _, _, .str x => .str x
  | _, _, .tup h r => .tup (s.ex _ _ h) (RepL.mono0 s r)
  | _, _, .lst h r => .lst (s.ex _ _ h) (RepL.mono0 s r)
  | _, _, .ins h r => .ins (s.ex _ _ h) (RepF.mono0 s r)
  | _, _, .scr h => .scr (sqL_mono s.ex h)
  | _, _, .own e => .own (pre_get s.pre e)
  | _, _, .ref a => .ref a
theorem RepL.mono0 (s : Sub F m F' m') : ∀ {v : List V} {d : List D}, RepL K F m v d → RepL K F' m' v d
  | _, _, .nil => .nil
  | _, _, .cons r t => .cons (Rep.mono0 s r) (RepL.mono0 s t)
theorem RepF.mono0 (s : Sub F m F' m') : ∀ {v : List (Str × V)} {d : List (Str × D)}, RepF K F m v d → RepF K F' m' v d
  | _, _, .nil => .nil
  | _, _, .cons r t => .cons (Rep.mono0 s r) (RepF.mono0 s t)
end
theorem RepK.mono0 (s : Sub F m F' m') {v : List (Key × V)} {d : List (Str × D)} (h : RepK K F m v d) : RepK K F' m' v d := by
  induction h with
  | nil => exact .nil
  | cons r _ ih => exact .cons (r.mono0 s) ih
theorem RepO.mono0 (s : Sub F m F' m') {v : HO} {d : DO} (h : RepO K F m v d) : RepO K F' m' v d := by
  cases h with
  | lst r => exact .lst (r.mono0 s)
  | dic r => exact .dic (r.mono0 s)
  | ins r => exact .ins (r.mono0 s)

/-- a step: more is known; what stands outside m is as it was -/
structure Stp (F H : Hp) (m : List Addr) (F' H' : Hp) (m' : List Addr) : Prop where
  ex : ∀ a o, F a = some o → F' a = some o
  pre : m <+: m'
  fr : ∀ a o, H a = some o → a ∉ m → H' a = some o
  nw : ∀ a, a ∈ m' → a ∉ m → H a = none
  nf : ∀ a o, H a = some o → a ∉ m → F a = none → F' a = none
theorem Stp.sub {F H F' H' : Hp} {m m' : List Addr} (s : Stp F H m F' H' m') : Sub F m F' m' := ⟨s.ex, s.pre⟩
theorem Stp.refl {F H : Hp} {m : List Addr} : Stp F H m F H m := ⟨fun _ _ h => h, List.prefix_refl _, fun _ _ h _ => h, fun _ h n => absurd h n, fun _ _ _ _ h => h⟩
theorem Stp.trans {F H F' H' F'' H'' : Hp} {m m' m'' : List Addr} (s : Stp F H m F' H' m') (t : Stp F' H' m' F'' H'' m'') : Stp F H m F'' H'' m'' where
  ex := fun x o h => t.ex x o (s.ex x o h)
  pre := s.pre.trans t.pre
  fr := fun a o h n => by
    refine t.fr a o (s.fr a o h n) fun q => ?_
    have := s.nw a q n
    rw [h] at this
    cases this
  nw := fun a h n => by
    by_cases q : a ∈ m'
    · exact s.nw a q n
    · have e := t.nw a h q
      cases u : H a with
      | none => rfl
      | some o => have := s.fr a o u n; rw [e] at this; cases this
  nf := fun a o h n f => by
    refine t.nf a o (s.fr a o h n) (fun q => ?_) (s.nf a o h n f)
    have := s.nw a q n
    rw [h] at this
    cases this
section
variable {H H' : Hp}
theorem Rep.mono {v : V} {d : D} (r : Rep K F m v d) (s : Stp F H m F' H' m') : Rep K F' m' v d := Rep.mono0 s.sub r
theorem RepL.mono {v : List V} {d : List D} (r : RepL K F m v d) (s : Stp F H m F' H' m') : RepL K F' m' v d := RepL.mono0 s.sub r
theorem RepF.mono {v : List (Str × V)} {d : List (Str × D)} (r : RepF K F m v d) (s : Stp F H m F' H' m') : RepF K F' m' v d := RepF.mono0 s.sub r
theorem RepK.mono {v : List (Key × V)} {d : List (Str × D)} (r : RepK K F m v d) (s : Stp F H m F' H' m') : RepK K F' m' v d := RepK.mono0 s.sub r
theorem RepO.mono {v : HO} {d : DO} (r : RepO K F m v d) (s : Stp F H m F' H' m') : RepO K F' m' v d := RepO.mono0 s.sub r
end

theorem RepL.length {vs : List V} {ds : List D} (h : RepL K F m vs ds) : vs.length = ds.length := by
  induction ds generalizing vs with
  | nil => cases h; rfl
  | cons d ds ih => cases h with | cons r t => rw [List.length_cons, List.length_cons, ih t]
theorem RepL.get {d : D} : ∀ {ds : List D} {vs : List V} {i : Nat}, RepL K F m vs ds → ds[i]? = some d → ∃ v, vs[i]? = some v ∧ Rep K F m v d
  | [], _, _, _, e => by simp at e
  | d0 :: ds, _, 0, .cons r t, e => by simp at e; subst e; exact ⟨_, rfl, r⟩
  | d0 :: ds, _, i + 1, .cons r t, e => by
    obtain ⟨v, e1, e2⟩ := RepL.get (i := i) t (by simpa using e)
    exact ⟨v, by simpa using e1, e2⟩
theorem RepL.get' {v : V} : ∀ {ds : List D} {vs : List V} {i : Nat}, RepL K F m vs ds → vs[i]? = some v → ∃ d, ds[i]? = some d ∧ Rep K F m v d
  | _, _, _, .nil, e => by simp at e
  | _, _, 0, .cons r t, e => by simp at e; subst e; exact ⟨_, rfl, r⟩
  | _, _, i + 1, .cons r t, e => by
    obtain ⟨d, e1, e2⟩ := RepL.get' (i := i) t (by simpa using e)
    exact ⟨d, by simpa using e1, e2⟩
theorem RepL.append {vs ws : List V} {ds es : List D} (h : RepL K F m vs ds) (g : RepL K F m ws es) : RepL K F m (vs ++ ws) (ds ++ es) := by
  induction ds generalizing vs with
  | nil => cases h; exact g
  | cons d ds ih => cases h with | cons r t => exact .cons r (ih t)
theorem RepL.take (n : Nat) {vs : List V} {ds : List D} (h : RepL K F m vs ds) : RepL K F m (vs.take n) (ds.take n) := by
  induction n generalizing vs ds with
  | zero => exact .nil
  | succ n ih => cases h with
    | nil => exact .nil
    | cons r t => exact .cons r (ih t)
theorem RepL.drop (n : Nat) {vs : List V} {ds : List D} (h : RepL K F m vs ds) : RepL K F m (vs.drop n) (ds.drop n) := by
  induction n generalizing vs ds with
  | zero => exact h
  | succ n ih => cases h with
    | nil => exact .nil
    | cons r t => exact ih t
theorem RepL.set {v : V} {d : D} (r : Rep K F m v d) (n : Nat) {vs : List V} {ds : List D} (h : RepL K F m vs ds) : RepL K F m (vs.set n v) (ds.set n d) := by
  induction n generalizing vs ds with
  | zero => cases h with
    | nil => exact .nil
    | cons _ t => exact .cons r t
  | succ n ih => cases h with
    | nil => exact .nil
    | cons r' t => exact .cons r' (ih t)
theorem RepL.reverse {vs : List V} {ds : List D} (h : RepL K F m vs ds) : RepL K F m vs.reverse ds.reverse := by
  induction ds generalizing vs with
  | nil => cases h; exact .nil
  | cons d ds ih => cases h with | cons r t => rw [List.reverse_cons, List.reverse_cons]; exact (ih t).append (.cons r .nil)
theorem RepL.rep {vs : List V} {ds : List D} (h : RepL K F m vs ds) : ∀ k : Nat, RepL K F m (List.replicate k vs).flatten (List.replicate k ds).flatten
  | 0 => .nil
  | k + 1 => by
    rw [List.replicate_succ, List.replicate_succ, List.flatten_cons, List.flatten_cons]
    exact h.append (RepL.rep h k)
theorem RepL.ints {ns : List Int} {vs : List V} (h : RepL K F m vs (ns.map D.int)) : vs = ns.map V.int := by
  induction ns generalizing vs with
  | nil => cases h; rfl
  | cons n ns ih => cases h with | cons r t => cases r; rw [List.map_cons, ih t]
theorem RepL.of_ints : ∀ ns : List Int, RepL K F m (ns.map V.int) (ns.map D.int)
  | [] => .nil
  | n :: ns => .cons (.int n) (RepL.of_ints ns)
theorem RepF.look {f : Str} {d : D} {vs : List (Str × V)} {gs : List (Str × D)} (h : RepF K F m vs gs) (e : gs.lookup f = some d) : ∃ v, vs.lookup f = some v ∧ Rep K F m v d := by
  induction gs generalizing vs with
  | nil => simp at e
  | cons g gs ih =>
    cases h with
    | cons r t =>
      rename_i n v d0 vs
      by_cases q : f = n
      · subst q
        rw [List.lookup_cons_self] at e ⊢
        cases e
        exact ⟨_, rfl, r⟩
      · have b : (f == n) = false := beq_false_of_ne q
        rw [List.lookup_cons, b] at e ⊢
        exact ih t e
theorem RepF.look0 {f : Str} {vs : List (Str × V)} {gs : List (Str × D)} (h : RepF K F m vs gs) (e : gs.lookup f = none) : vs.lookup f = none := by
  induction gs generalizing vs with
  | nil => cases h; rfl
  | cons g gs ih =>
    cases h with
    | cons r t =>
      rename_i n v d0 vs
      by_cases q : f = n
      · subst q
        rw [List.lookup_cons_self] at e
        cases e
      · have b : (f == n) = false := beq_false_of_ne q
        rw [List.lookup_cons, b] at e ⊢
        exact ih t e
theorem RepF.length {vs : List (Str × V)} {gs : List (Str × D)} (h : RepF K F m vs gs) : vs.length = gs.length := by
  induction gs generalizing vs with
  | nil => cases h; rfl
  | cons g gs ih => cases h with | cons r t => rw [List.length_cons, List.length_cons, ih t]
/-- a field stored -/
def putG (f : Str) (v : D) : List (Str × D) → List (Str × D)
  | [] => [(f, v)]
  | (g, w) :: r => if g = f then (g, v) :: r else (g, w) :: putG f v r
theorem RepF.put {f : Str} {v : V} {d : D} (r : Rep K F m v d) {vs : List (Str × V)} {gs : List (Str × D)} (h : RepF K F m vs gs) : RepF K F m (putF f v vs) (putG f d gs) := by
  induction gs generalizing vs with
  | nil => cases h; exact .cons r .nil
  | cons g gs ih =>
    cases h with
    | cons r' t =>
      rename_i n v0 d0 vs
      show RepF K F m (if n = f then _ else _) (if n = f then _ else _)
      by_cases q : n = f
      · rw [if_pos q, if_pos q]; exact .cons r t
      · rw [if_neg q, if_neg q]; exact .cons r' (ih t)
end

/-- F: what no one changes; m: where the things that may change stand; O: what they hold -/
structure Hol (K : PySem.W.Frag) (F H : Hp) (m : List Addr) (O : Own) : Prop where
  ex : ∀ a o, F a = some o → H a = some o
  nd : m.Nodup
  th : ∀ a ∈ m, ∃ o, H a = some o
  len : O.length = m.length
  own : ∀ (h : Nat) (o : DO), O[h]? = some (some o) → ∃ a ho, m[h]? = some a ∧ F a = none ∧ H a = some ho ∧ RepO K F m ho o
structure EnvR (K : PySem.W.Frag) (F : Hp) (m : List Addr) (σ : St) (δ : DSt) : Prop where
  len : σ.length = δ.length
  at_ : ∀ (i : Nat) (d : D), δ[i]? = some (some d) → ∃ v, σ[i]? = some (some v) ∧ Rep K F m v d

section
variable {K : PySem.W.Frag} {F F' H H' : Hp} {m m' : List Addr} {O O' : Own} {σ : St} {δ : DSt}
theorem EnvR.mono (e : EnvR K F m σ δ) (s : Stp F H m F' H' m') : EnvR K F' m' σ δ := ⟨e.len, fun i d h => let ⟨v, a, b⟩ := e.at_ i d h; ⟨v, a, b.mono s⟩⟩
theorem EnvR.set (e : EnvR K F m σ δ) (i : Nat) {v : V} {d : D} (r : Rep K F m v d) : EnvR K F m (σ.set i (some v)) (δ.set i (some d)) := by
  refine ⟨by rw [List.length_set, List.length_set, e.len], fun j d' h => ?_⟩
  by_cases q : i = j
  · subst q
    by_cases hi : i < δ.length
    · rw [List.getElem?_set_self hi] at h
      cases h
      exact ⟨v, by rw [List.getElem?_set_self (by rw [e.len]; exact hi)], r⟩
    · rw [List.set_eq_of_length_le (Nat.le_of_not_lt hi)] at h
      exact absurd (List.getElem?_eq_some_iff.mp h).1 hi
  · rw [List.getElem?_set_ne q] at h ⊢
    exact e.at_ j d' h
theorem Hol.at_ (x : Hol K F H m O) {h : Nat} {o : DO} {a : Addr} (e : O[h]? = some (some o)) (ha : m[h]? = some a) : F a = none ∧ ∃ ho, H a = some ho ∧ RepO K F m ho o := by
  obtain ⟨a', ho, e1, e2, e3, e4⟩ := x.own h o e
  rw [ha] at e1
  cases e1
  exact ⟨e2, ho, e3, e4⟩
/-- a thing is changed -/
theorem Hol.upd (x : Hol K F H m O) {h : Nat} {o0 o : DO} {a : Addr} {ho : HO} (e : O[h]? = some (some o0)) (ha : m[h]? = some a) (r : RepO K F m ho o) : Stp F H m F (L2.upd H a ho) m ∧ Hol K F (L2.upd H a ho) m (O.set h (some o)) := by
  obtain ⟨hf, _⟩ := x.at_ e ha
  refine ⟨⟨fun _ _ h => h, List.prefix_refl _, fun b u q n => by rw [upd_ne (fun z => n (by rw [z]; exact List.mem_of_getElem? ha))]; exact q, fun _ h n => absurd h n, fun _ _ _ _ h => h⟩, fun b u q => ?_, x.nd, fun b hb => ?_, by rw [List.length_set]; exact x.len, fun h' o' e' => ?_⟩
  · rw [upd_ne (ne_of_none q hf)]; exact x.ex b u q
  · by_cases z : b = a
    · exact ⟨ho, by rw [z]; exact upd_same⟩
    · obtain ⟨u, hu⟩ := x.th b hb
      exact ⟨u, by rw [upd_ne z]; exact hu⟩
  · by_cases z : h = h'
    · subst z
      rw [List.getElem?_set_self (List.getElem?_eq_some_iff.mp e).1] at e'
      cases e'
      exact ⟨a, ho, ha, hf, upd_same, r⟩
    · rw [List.getElem?_set_ne z] at e'
      obtain ⟨a', ho', e1, e2, e3, e4⟩ := x.own h' o' e'
      have ne : a' ≠ a := by
        rintro rfl
        obtain ⟨p1, q1⟩ := List.getElem?_eq_some_iff.mp e1
        obtain ⟨p2, q2⟩ := List.getElem?_eq_some_iff.mp ha
        exact z ((List.getElem_inj x.nd).mp (q2.trans q1.symm))
      exact ⟨a', ho', e1, e2, by rw [upd_ne ne]; exact e3, e4⟩
/-- a new thing that may change -/
theorem Hol.new (x : Hol K F H m O) {p : Addr} {ho : HO} {o : DO} (n : H p = none) (r : RepO K F m ho o) : Stp F H m F (L2.upd H p ho) (m ++ [p]) ∧ Hol K F (L2.upd H p ho) (m ++ [p]) (O ++ [some o]) := by
  have s : Stp F H m F (L2.upd H p ho) (m ++ [p]) := ⟨fun _ _ h => h, List.prefix_append _ _, fun a u h _ => by rw [upd_ne (ne_of_none h n)]; exact h, fun a h q => by
    rcases List.mem_append.mp h with h | h
    · exact absurd h q
    · rw [List.mem_singleton] at h; rw [h]; exact n, fun _ _ _ _ h => h⟩
  have np : p ∉ m := fun q => by obtain ⟨u, e⟩ := x.th p q; rw [n] at e; cases e
  have fp : F p = none := by
    cases q : F p with
    | none => rfl
    | some u => have := x.ex p u q; rw [n] at this; cases this
  refine ⟨s, fun b u q => ?_, ?_, fun b hb => ?_, by rw [List.length_append, List.length_append, x.len] <;> rfl, fun h o' e => ?_⟩
  · rw [upd_ne (ne_of_none q fp)]; exact x.ex b u q
  · rw [List.nodup_append]
    exact ⟨x.nd, List.nodup_cons.mpr ⟨List.not_mem_nil, List.nodup_nil⟩, fun a ha b hb e => np (by rw [List.mem_singleton] at hb; rw [← hb, ← e]; exact ha)⟩
  · rcases List.mem_append.mp hb with hb | hb
    · obtain ⟨u, hu⟩ := x.th b hb
      exact ⟨u, by rw [upd_ne (ne_of_none hu n)]; exact hu⟩
    · rw [List.mem_singleton] at hb
      exact ⟨ho, by rw [hb]; exact upd_same⟩
  · by_cases z : h < O.length
    · rw [List.getElem?_append_left z] at e
      obtain ⟨a, ho', e1, e2, e3, e4⟩ := x.own h o' e
      exact ⟨a, ho', pre_get s.pre e1, e2, by rw [upd_ne (ne_of_none e3 n)]; exact e3, e4.mono s⟩
    · rw [List.getElem?_append_right (Nat.le_of_not_lt z)] at e
      have h0 : h - O.length = 0 := by
        cases k : h - O.length with
        | zero => rfl
        | succ k' => rw [k] at e; simp at e
      have hh : h = O.length := by omega
      rw [h0] at e
      cases e
      refine ⟨p, ho, ?_, fp, upd_same, r.mono s⟩
      rw [hh, x.len, List.getElem?_append_right (Nat.le_refl _), Nat.sub_self]
      rfl
/-- a new thing that no one changes -/
theorem Hol.frz (x : Hol K F H m O) {p : Addr} {ho : HO} (n : H p = none) : Stp F H m (L2.upd F p ho) (L2.upd H p ho) m ∧ Hol K (L2.upd F p ho) (L2.upd H p ho) m O := by
  have fp : F p = none := by
    cases q : F p with
    | none => rfl
    | some u => have := x.ex p u q; rw [n] at this; cases this
  have s : Stp F H m (L2.upd F p ho) (L2.upd H p ho) m := ⟨fun a o h => by rw [upd_ne (ne_of_none h fp)]; exact h, List.prefix_refl _, fun a u h _ => by rw [upd_ne (ne_of_none h n)]; exact h, fun _ h q => absurd h q,
    fun a o h _ f => by rw [upd_ne (ne_of_none h n)]; exact f⟩
  refine ⟨s, fun b u q => ?_, x.nd, fun b hb => ?_, x.len, fun h o' e => ?_⟩
  · by_cases z : b = p
    · subst z; rw [upd_same] at q ⊢; exact q
    · rw [upd_ne z] at q ⊢; exact x.ex b u q
  · obtain ⟨u, hu⟩ := x.th b hb
    exact ⟨u, by rw [upd_ne (ne_of_none hu n)]; exact hu⟩
  · obtain ⟨a, ho', e1, e2, e3, e4⟩ := x.own h o' e
    have ne := ne_of_none e3 n
    exact ⟨a, ho', e1, by rw [upd_ne ne]; exact e2, by rw [upd_ne ne]; exact e3, e4.mono s⟩
end
end DL

/-! DL, part b: readings over data and the rules of expressions. -/
namespace DL
open PySem L2

abbrev DE := DSt → Own → (D → Own → Prop) → Prop
abbrev DT := DSt → Own → (Bool → Own → Prop) → Prop
abbrev DA := DSt → Own → (List D → Own → Prop) → Prop
abbrev DOp := Own → D → D → (D → Own → Prop) → Prop
/-- what is wanted behind a statement, over data -/
structure DEnds where
  nx : DSt → Own → Prop
  rt : D → Own → Prop
  bk : DSt → Own → Prop := fun _ _ => False
  ct : DSt → Own → Prop := fun _ _ => False
abbrev DS := DEnds → DSt → Own → Prop

section
variable (K : PySem.W.Frag) (F H : Hp) (m : List Addr)
def Fin (R : D → Own → Prop) (Q : VK) : Prop := ∀ v H' F' m' d O', Stp F H m F' H' m' → Hol K F' H' m' O' → Rep K F' m' v d → R d O' → Q v H'
def FinT (R : Bool → Own → Prop) (Q : Bool → Hp → Prop) : Prop := ∀ b H' F' m' O', Stp F H m F' H' m' → Hol K F' H' m' O' → R b O' → Q b H'
def FinA (R : List D → Own → Prop) (Q : List V → Hp → Prop) : Prop := ∀ vs H' F' m' ds O', Stp F H m F' H' m' → Hol K F' H' m' O' → RepL K F' m' vs ds → R ds O' → Q vs H'
/-- a new list, laid at a free place -/
def FinL (R : List D → Own → Prop) (Q : VK) : Prop := ∀ p H' F' m' xs ds O', Stp F H m F' H' m' → Hol K F' H' m' O' → H' p = none → RepL K F' m' xs ds → R ds O' → Q (.ref p) (L2.upd H' p (.lst xs))
structure FinS (E : DEnds) (D : Ends) : Prop where
  nx : ∀ σ' H' F' m' δ' O', Stp F H m F' H' m' → Hol K F' H' m' O' → EnvR K F' m' σ' δ' → E.nx δ' O' → D.nx σ' H'
  rt : Fin K F H m E.rt D.rt
  bk : ∀ σ' H' F' m' δ' O', Stp F H m F' H' m' → Hol K F' H' m' O' → EnvR K F' m' σ' δ' → E.bk δ' O' → D.bk σ' H'
  ct : ∀ σ' H' F' m' δ' O', Stp F H m F' H' m' → Hol K F' H' m' O' → EnvR K F' m' σ' δ' → E.ct δ' O' → D.ct σ' H'
end
section
variable {K : PySem.W.Frag} {F F' H H' : Hp} {m m' : List Addr} {O : Own}
theorem Fin.mono {R : D → Own → Prop} {Q : VK} (f : Fin K F H m R Q) (s : Stp F H m F' H' m') : Fin K F' H' m' R Q := fun v H1 F1 m1 d O1 s1 h r q => f v H1 F1 m1 d O1 (s.trans s1) h r q
theorem FinT.mono {R : Bool → Own → Prop} {Q : Bool → Hp → Prop} (f : FinT K F H m R Q) (s : Stp F H m F' H' m') : FinT K F' H' m' R Q := fun v H1 F1 m1 O1 s1 h q => f v H1 F1 m1 O1 (s.trans s1) h q
theorem FinA.mono {R : List D → Own → Prop} {Q : List V → Hp → Prop} (f : FinA K F H m R Q) (s : Stp F H m F' H' m') : FinA K F' H' m' R Q := fun v H1 F1 m1 d O1 s1 h r q => f v H1 F1 m1 d O1 (s.trans s1) h r q
theorem FinL.mono {R : List D → Own → Prop} {Q : VK} (f : FinL K F H m R Q) (s : Stp F H m F' H' m') : FinL K F' H' m' R Q := fun p H1 F1 m1 xs d O1 s1 h n r q => f p H1 F1 m1 xs d O1 (s.trans s1) h n r q
theorem FinS.mono {E : DEnds} {D : Ends} (f : FinS K F H m E D) (s : Stp F H m F' H' m') : FinS K F' H' m' E D :=
  ⟨fun a b c d e g s1 => f.nx a b c d e g (s.trans s1), f.rt.mono s, fun a b c d e g s1 => f.bk a b c d e g (s.trans s1), fun a b c d e g s1 => f.ct a b c d e g (s.trans s1)⟩
theorem Fin.here {R : D → Own → Prop} {Q : VK} (f : Fin K F H m R Q) (h : Hol K F H m O) {v : V} {d : D} (r : Rep K F m v d) (q : R d O) : Q v H := f v H F m d O .refl h r q
end
structure Snd (K : PySem.W.Frag) (te : TE) (t : DE) : Prop where
  go : ∀ (σ : L2.St) (H F : Hp) (m : List Addr) (δ : DSt) (O : Own) (R : D → Own → Prop) (Q : VK), Hol K F H m O → EnvR K F m σ δ → t δ O R → Fin K F H m R Q → te σ H Q
structure SndT (K : PySem.W.Frag) (te : TT) (t : DT) : Prop where
  go : ∀ (σ : L2.St) (H F : Hp) (m : List Addr) (δ : DSt) (O : Own) (R : Bool → Own → Prop) (Q : Bool → Hp → Prop), Hol K F H m O → EnvR K F m σ δ → t δ O R → FinT K F H m R Q → te σ H Q
structure SndA (K : PySem.W.Frag) (te : TA) (t : DA) : Prop where
  go : ∀ (σ : L2.St) (H F : Hp) (m : List Addr) (δ : DSt) (O : Own) (R : List D → Own → Prop) (Q : List V → Hp → Prop), Hol K F H m O → EnvR K F m σ δ → t δ O R → FinA K F H m R Q → te σ H Q
structure SndL (K : PySem.W.Frag) (te : TE) (t : DA) : Prop where
  go : ∀ (σ : L2.St) (H F : Hp) (m : List Addr) (δ : DSt) (O : Own) (R : List D → Own → Prop) (Q : VK), Hol K F H m O → EnvR K F m σ δ → t δ O R → FinL K F H m R Q → te σ H Q
structure SndS (K : PySem.W.Frag) (te : TS) (t : DS) : Prop where
  go : ∀ (σ : L2.St) (H F : Hp) (m : List Addr) (δ : DSt) (O : Own) (E : DEnds) (D : Ends), Hol K F H m O → EnvR K F m σ δ → t E δ O → FinS K F H m E D → te D σ H
structure SndO (K : PySem.W.Frag) (r : R2) (f : DOp) : Prop where
  go : ∀ (H F : Hp) (m : List Addr) (O : Own) (x y : V) (a b : D) (R : D → Own → Prop) (Q : VK), Hol K F H m O → Rep K F m x a → Rep K F m y b → f O a b R → Fin K F H m R Q → r x y H Q

structure PD (X : Cx) (e : Expr) (te : TE) (t : DE) : Prop where
  pe : PE X e te
  sn : Snd X.K te t
structure PDT (X : Cx) (e : Expr) (te : TT) (t : DT) : Prop where
  pe : PT X e te
  sn : SndT X.K te t
structure PDW (X : Cx) (e : Expr) (te : TT) (t : DT) : Prop where
  pe : PW X e te
  sn : SndT X.K te t
structure PDA (X : Cx) (es : List Expr) (te : TA) (t : DA) : Prop where
  pe : PA X es te
  sn : SndA X.K te t
structure PDL (X : Cx) (e : Expr) (te : TE) (t : DA) : Prop where
  pe : PE X e te
  sn : SndL X.K te t
structure PDS (X : Cx) (st : Stmt) (te : TS) (t : DS) : Prop where
  pe : PS X st te
  sn : SndS X.K te t
structure PDSs (X : Cx) (st : List Stmt) (te : TS) (t : DS) : Prop where
  pe : PSs X st te
  sn : SndS X.K te t

/-! ### names, constants -/
def oK {α : Type} (o : Option α) (k : α → Prop) : Prop := match o with
  | some a => k a
  | none => False
theorem oK.ex {α : Type} {o : Option α} {k : α → Prop} (h : oK o k) : ∃ a, o = some a ∧ k a := by
  cases o with
  | none => exact h.elim
  | some a => exact ⟨a, rfl, h⟩
def dVar (i : Nat) : DE := fun δ O R => match δ[i]? with
  | some (some d) => R d O
  | _ => False
def dC (d : D) : DE := fun _ O R => R d O
section
variable {K : PySem.W.Frag} {X : Cx} {pos : Pos}
theorem snd_var (i : Nat) : Snd K (tVar i) (dVar i) := ⟨fun σ H F m δ O R Q h e t f => by
  unfold dVar at t
  split at t
  · rename_i d q
    obtain ⟨v, e1, r⟩ := e.at_ i d q
    exact ⟨v, e1, f.here h r t⟩
  · exact t.elim⟩
theorem snd_c {v : V} {d : D} (r : ∀ F m, Rep K F m v d) : Snd K (tC v) (dC d) := ⟨fun σ H F m δ O R Q h e t f => f.here h (r F m) t⟩
theorem pdv (i : Nat) {x : Str} (hN : X.N[i]? = some x := by rfl) (hv : Vis X.env.scope x := by first | exact Or.inl rfl | exact Or.inr (Or.inl rfl) | exact Or.inr (Or.inr rfl)) (hd : (x == ("__debug__" : Str)) = false := by decide)
    (hcd : (x == ("__classdict__" : Str)) = false := by decide) : PD X (.Name x pos) (tVar i) (dVar i) := ⟨pe_var hN hv hd hcd, snd_var i⟩
theorem pd_int {i : Int} {j : Nat} : PD X (.Constant (.int i) j pos) (tC (.int i)) (dC (.int i)) := ⟨pe_int, snd_c fun _ _ => .int i⟩
theorem pd_bl {b : Bool} {j : Nat} : PD X (.Constant (.bool b) j pos) (tC (.bl b)) (dC (.bl b)) := ⟨pe_bl, snd_c fun _ _ => .bl b⟩
theorem pd_non {j : Nat} : PD X (.Constant .none j pos) (tC .non) (dC .non) := ⟨pe_non, snd_c fun _ _ => .non⟩
theorem pd_str {x : Str} {j : Nat} : PD X (.Constant (.str x) j pos) (tC (.str x)) (dC (.str x)) := ⟨pe_str, snd_c fun _ _ => .str x⟩
/-- a whole number of the module's -/
theorem pd_gint {x : Str} {n : Int} {t : Tok} (hg : Gl X x) (hm : X.mg x = some (.int n t)) (hd : (x == ("__debug__" : Str)) = false := by decide) : PD X (.Name x pos) (tC (.int n)) (dC (.int n)) :=
  ⟨pe_glob hg hm ⟨t, rfl⟩ hd, snd_c fun _ _ => .int n⟩
end

/-! ### what a datum is as a list, a tuple -/
def asL (O : Own) : D → Option (List D)
  | .lst ds => some ds
  | .own h => match O[h]? with
    | some (some (.lst ds)) => some ds
    | _ => none
  | _ => none
section
variable {K : PySem.W.Frag} {F H : Hp} {m : List Addr} {O : Own}
theorem asL_rep (h : Hol K F H m O) {v : V} {d : D} {ds : List D} (r : Rep K F m v d) (e : asL O d = some ds) : ∃ a xs, v = .ref a ∧ H a = some (.lst xs) ∧ RepL K F m xs ds := by
  cases r with
  | lst q r => cases e; exact ⟨_, _, rfl, h.ex _ _ q, r⟩
  | @own n a q =>
    unfold asL at e
    dsimp only at e
    split at e
    · rename_i ds' q'
      cases e
      obtain ⟨_, ho, e1, e2⟩ := h.at_ q' q
      cases e2 with
      | lst r => exact ⟨a, _, rfl, e1, r⟩
    · cases e
  | _ => cases e
theorem tup_rep (h : Hol K F H m O) {v : V} {ds : List D} (r : Rep K F m v (.tup ds)) : ∃ a xs, v = .ref a ∧ H a = some (.tup xs) ∧ RepL K F m xs ds := by
  cases r with
  | tup q r => exact ⟨_, _, rfl, h.ex _ _ q, r⟩
theorem sz5 {n : Nat} (h : n ≤ 100000) : n ≤ sizeLine := Nat.le_trans h (by decide)
theorem sz5' {n : Nat} (h : n < 100000) : n < sizeLine := Nat.lt_of_lt_of_le h (by decide)
/-- a new tuple at a free place -/
theorem Fin.tup {R : D → Own → Prop} {Q : VK} (f : Fin K F H m R Q) (h : Hol K F H m O) {xs : List V} {ds : List D} (r : RepL K F m xs ds) (q : R (.tup ds) O) (p : Addr) (n : H p = none) : Q (.ref p) (L2.upd H p (.tup xs)) := by
  obtain ⟨s, h'⟩ := h.frz (ho := .tup xs) n
  exact f _ _ _ _ _ _ s h' (.tup upd_same (r.mono s)) q
theorem Fin.lst {R : D → Own → Prop} {Q : VK} (f : Fin K F H m R Q) (h : Hol K F H m O) {xs : List V} {ds : List D} (r : RepL K F m xs ds) (q : R (.lst ds) O) (p : Addr) (n : H p = none) : Q (.ref p) (L2.upd H p (.lst xs)) := by
  obtain ⟨s, h'⟩ := h.frz (ho := .lst xs) n
  exact f _ _ _ _ _ _ s h' (.lst upd_same (r.mono s)) q
theorem FinL.lst {R : List D → Own → Prop} {Q : VK} (f : FinL K F H m R Q) (h : Hol K F H m O) {xs : List V} {ds : List D} (r : RepL K F m xs ds) (q : R ds O) (p : Addr) (n : H p = none) : Q (.ref p) (L2.upd H p (.lst xs)) :=
  f p H F m xs ds O .refl h n r q
end
/-! ### new lists: that no one changes; that may change -/
def dFrz (t : DA) : DE := fun δ O R => t δ O fun ds O' => R (.lst ds) O'
def dNew (t : DA) : DE := fun δ O R => t δ O fun ds O' => R (.own O'.length) (O' ++ [some (.lst ds)])
section
variable {X : Cx} {e : Expr} {te : TE} {t : DA}
theorem pd_frz (h : PDL X e te t) : PD X e te (dFrz t) := ⟨h.pe, ⟨fun σ H F m δ O R Q hh en hr f => h.sn.go σ H F m δ O _ Q hh en hr fun p H' F' m' xs ds O' s h1 n r q =>
  (f.mono s).lst h1 r q p n⟩⟩
theorem pd_new (h : PDL X e te t) : PD X e te (dNew t) := ⟨h.pe, ⟨fun σ H F m δ O R Q hh en hr f => h.sn.go σ H F m δ O _ Q hh en hr fun p H' F' m' xs ds O' s h1 n r q => by
  obtain ⟨s2, h2⟩ := h1.new n (.lst r)
  refine f _ _ _ _ _ _ (s.trans s2) h2 (.own ?_) q
  rw [h1.len, List.getElem?_append_right (Nat.le_refl _), Nat.sub_self]
  rfl⟩⟩
end

/-! ### operators -/
def dOp (f : DOp) (ta tb : DE) : DE := fun δ O R => ta δ O fun a O1 => tb δ O1 fun b O2 => f O2 a b R
section
variable {K : PySem.W.Frag} {X : Cx} {a b : Expr} {ta tb : TE} {da db : DE} {r : R2} {f : DOp} {pos : Pos}
theorem snd_op (sr : SndO K r f) (ha : Snd K ta da) (hb : Snd K tb db) : Snd K (tOp r ta tb) (dOp f da db) := ⟨fun σ H F m δ O R Q h e t fn =>
  ha.go σ H F m δ O _ _ h e t fun x H1 F1 m1 p O1 s1 h1 r1 t1 => hb.go σ H1 F1 m1 δ O1 _ _ h1 (e.mono s1) t1 fun y H2 F2 m2 q O2 s2 h2 r2 t2 =>
    sr.go H2 F2 m2 O2 x y p q R Q h2 (r1.mono s2) r2 t2 (fn.mono (s1.trans s2))⟩
theorem pd_op {op : Operator} (ho : OpR X (binaryOp op) r) (sr : SndO X.K r f) (ha : PD X a ta da) (hb : PD X b tb db) : PD X (.BinOp a op b pos) (tOp r ta tb) (dOp f da db) := ⟨pe_op ho ha.pe hb.pe, snd_op sr ha.sn hb.sn⟩
theorem pd_cmp {op : CmpOp} (ho : OpR X (compareOp op) r) (sr : SndO X.K r f) (ha : PD X a ta da) (hb : PD X b tb db) (hm : behindInMarks op b = false) : PD X (.Compare a [op] [b] pos) (tOp r ta tb) (dOp f da db) :=
  ⟨pe_cmpR ho ha.pe hb.pe hm, snd_op sr ha.sn hb.sn⟩
theorem pd_ix (hr : IxR X r) (sr : SndO X.K r f) (ha : PD X a ta da) (hb : PD X b tb db) (hs : PlainIx b) : PD X (.Subscript a b pos) (tOp r ta tb) (dOp f da db) := ⟨pe_ix hr ha.pe hb.pe hs, snd_op sr ha.sn hb.sn⟩
/-- a truth value as a test -/
def asB (d : D) (k : Bool → Prop) : Prop := match d with
  | .bl b => k b
  | _ => False
def dTest (t : DE) : DT := fun δ O R => t δ O fun d O' => asB d fun b => R b O'
theorem snd_test {te : TE} {t : DE} (h : Snd K te t) : SndT K (tTest te) (dTest t) := ⟨fun σ H F m δ O R Q hh e hr fn => h.go σ H F m δ O _ _ hh e hr fun x H1 F1 m1 p O1 s1 h1 r1 t1 => by
  cases r1 with
  | bl k => exact ⟨k, rfl, fn k H1 F1 m1 O1 s1 h1 t1⟩
  | _ => exact t1.elim⟩
theorem pdt_cmp {op : CmpOp} (ho : OpR X (compareOp op) r) (sr : SndO X.K r f) (ha : PD X a ta da) (hb : PD X b tb db) (hm : behindInMarks op b = false) : PDT X (.Compare a [op] [b] pos) (tTest (tOp r ta tb)) (dTest (dOp f da db)) :=
  ⟨pt_cmpR ho ha.pe hb.pe hm, snd_test (snd_op sr ha.sn hb.sn)⟩
theorem pdt_val {e : Expr} {te : TE} {t : DE} (h : PD X e te t) (he : ∀ whole, isTrue e X.env whole = (do let v ← whole; standAt e.pos; holding [v] (truthy v)) := by intro _; rfl) : PDT X e (tB te) (dTest t) := ⟨pt_val h.pe he, snd_test h.sn⟩
/-- two comparisons in a chain -/
def dChain (f f' : DOp) (ta tb tc : DE) : DE := fun δ O R => ta δ O fun a O1 => tb δ O1 fun b O2 => f O2 a b fun z O3 => asB z fun k => if k = true then tc δ O3 (fun c O4 => f' O4 b c R) else R (.bl false) O3
end
end DL

/-! DL, part c: operators over data. -/
namespace DL
open PySem L2

section
variable {K : PySem.W.Frag} {X : Cx} {a b c : Expr} {ta tb tc : TE} {da db dc : DE} {r r' : R2} {f f' : DOp} {pos : Pos}
/-! ### chains, and, or, not -/
theorem snd_chain (sr : SndO K r f) (sr' : SndO K r' f') (ha : Snd K ta da) (hb : Snd K tb db) (hc : Snd K tc dc) : Snd K (tChain r r' ta tb tc) (dChain f f' da db dc) := ⟨fun σ H F m δ O R Q h e t fn =>
  ha.go σ H F m δ O _ _ h e t fun x H1 F1 m1 p O1 s1 h1 r1 t1 => hb.go σ H1 F1 m1 δ O1 _ _ h1 (e.mono s1) t1 fun y H2 F2 m2 q O2 s2 h2 r2 t2 =>
    sr.go H2 F2 m2 O2 x y p q _ _ h2 (r1.mono s2) r2 t2 fun z H3 F3 m3 u O3 s3 h3 r3 t3 => by
      cases r3 with
      | bl k =>
        refine ⟨k, rfl, ?_⟩
        cases k with
        | false => exact fn (.bl false) H3 F3 m3 (.bl false) O3 (s1.trans (s2.trans s3)) h3 (.bl false) t3
        | true => exact hc.go σ H3 F3 m3 δ O3 _ _ h3 (e.mono (s1.trans (s2.trans s3))) t3 fun w H4 F4 m4 v O4 s4 h4 r4 t4 =>
            sr'.go H4 F4 m4 O4 y w q v R Q h4 (r2.mono (s3.trans s4)) r4 t4 (fn.mono (s1.trans (s2.trans (s3.trans s4))))
      | _ => exact t3.elim⟩
theorem pd_chain {op op' : CmpOp} (ho : OpR X (compareOp op) r) (sr : SndO X.K r f) (ho' : OpR X (compareOp op') r') (sr' : SndO X.K r' f') (ha : PD X a ta da) (hb : PD X b tb db) (hc : PD X c tc dc)
    (hm : lastMarks [op, op'] [b, c] = false := by with_unfolding_all rfl) : PD X (.Compare a [op, op'] [b, c] pos) (tChain r r' ta tb tc) (dChain f f' da db dc) := ⟨pe_chain ho ho' ha.pe hb.pe hc.pe hm, snd_chain sr sr' ha.sn hb.sn hc.sn⟩
theorem pdt_chain {op op' : CmpOp} (ho : OpR X (compareOp op) r) (sr : SndO X.K r f) (ho' : OpR X (compareOp op') r') (sr' : SndO X.K r' f') (ha : PD X a ta da) (hb : PD X b tb db) (hc : PD X c tc dc)
    (hm : lastMarks [op, op'] [b, c] = false := by with_unfolding_all rfl) : PDT X (.Compare a [op, op'] [b, c] pos) (tTest (tChain r r' ta tb tc)) (dTest (dChain f f' da db dc)) := ⟨pt_chain ho ho' ha.pe hb.pe hc.pe hm, snd_test (snd_chain sr sr' ha.sn hb.sn hc.sn)⟩

def dAnd (t u : DT) : DT := fun δ O R => t δ O fun k O1 => if k = true then u δ O1 R else R false O1
def dOr (t u : DT) : DT := fun δ O R => t δ O fun k O1 => if k = true then R true O1 else u δ O1 R
def dNot (t : DT) : DT := fun δ O R => t δ O fun k O1 => R (!k) O1
variable {tA tB' : TT} {dA dB : DT} {rest : List Expr}
theorem snd_and (ha : SndT K tA dA) (hb : SndT K tB' dB) : SndT K (tAnd tA tB') (dAnd dA dB) := ⟨fun σ H F m δ O R Q h e t fn => ha.go σ H F m δ O _ _ h e t fun k H1 F1 m1 O1 s1 h1 t1 => by
  cases k with
  | true => exact hb.go σ H1 F1 m1 δ O1 R Q h1 (e.mono s1) t1 (fn.mono s1)
  | false => exact fn false H1 F1 m1 O1 s1 h1 t1⟩
theorem snd_or (ha : SndT K tA dA) (hb : SndT K tB' dB) : SndT K (tOr tA tB') (dOr dA dB) := ⟨fun σ H F m δ O R Q h e t fn => ha.go σ H F m δ O _ _ h e t fun k H1 F1 m1 O1 s1 h1 t1 => by
  cases k with
  | false => exact hb.go σ H1 F1 m1 δ O1 R Q h1 (e.mono s1) t1 (fn.mono s1)
  | true => exact fn true H1 F1 m1 O1 s1 h1 t1⟩
theorem snd_not (ha : SndT K tA dA) : SndT K (tNot tA) (dNot dA) := ⟨fun σ H F m δ O R Q h e t fn => ha.go σ H F m δ O _ _ h e t fun k H1 F1 m1 O1 s1 h1 t1 => fn (!k) H1 F1 m1 O1 s1 h1 t1⟩
theorem PDW.pt {e : Expr} {tt : TT} {t : DT} (h : PDW X e tt t) : PDT X e tt t := ⟨h.pe.pt, h.sn⟩
theorem pdw_and1 (ha : PDT X a tA dA) : PDW X (.BoolOp .And [a] pos) tA dA := ⟨pw_and1 ha.pe, ha.sn⟩
theorem pdw_or1 (ha : PDT X a tA dA) : PDW X (.BoolOp .Or [a] pos) tA dA := ⟨pw_or1 ha.pe, ha.sn⟩
theorem pdw_and (ha : PDT X a tA dA) (hb : PDW X (.BoolOp .And (b :: rest) pos) tB' dB) : PDW X (.BoolOp .And (a :: b :: rest) pos) (tAnd tA tB') (dAnd dA dB) := ⟨pw_and ha.pe hb.pe, snd_and ha.sn hb.sn⟩
theorem pdw_or (ha : PDT X a tA dA) (hb : PDW X (.BoolOp .Or (b :: rest) pos) tB' dB) : PDW X (.BoolOp .Or (a :: b :: rest) pos) (tOr tA tB') (dOr dA dB) := ⟨pw_or ha.pe hb.pe, snd_or ha.sn hb.sn⟩
theorem pdt_not (ha : PDT X a tA dA) : PDT X (.UnaryOp .Not a pos) (tNot tA) (dNot dA) := ⟨pt_not ha.pe, snd_not ha.sn⟩
/-- as values -/
def dAndV (ta tb : DE) : DE := fun δ O R => ta δ O fun x O1 => asB x fun k => if k = true then tb δ O1 R else R (.bl false) O1
def dOrV (ta tb : DE) : DE := fun δ O R => ta δ O fun x O1 => asB x fun k => if k = true then R (.bl true) O1 else tb δ O1 R
def dNotV (ta : DE) : DE := fun δ O R => ta δ O fun x O1 => asB x fun k => R (.bl (!k)) O1
theorem snd_andV (ha : Snd K ta da) (hb : Snd K tb db) : Snd K (tAndV ta tb) (dAndV da db) := ⟨fun σ H F m δ O R Q h e t fn => ha.go σ H F m δ O _ _ h e t fun v H1 F1 m1 p O1 s1 h1 r1 t1 => by
  cases r1 with
  | bl k =>
    refine ⟨k, rfl, ?_⟩
    cases k with
    | true => exact hb.go σ H1 F1 m1 δ O1 R Q h1 (e.mono s1) t1 (fn.mono s1)
    | false => exact fn _ H1 F1 m1 _ O1 s1 h1 (.bl false) t1
  | _ => exact t1.elim⟩
theorem snd_orV (ha : Snd K ta da) (hb : Snd K tb db) : Snd K (tOrV ta tb) (dOrV da db) := ⟨fun σ H F m δ O R Q h e t fn => ha.go σ H F m δ O _ _ h e t fun v H1 F1 m1 p O1 s1 h1 r1 t1 => by
  cases r1 with
  | bl k =>
    refine ⟨k, rfl, ?_⟩
    cases k with
    | false => exact hb.go σ H1 F1 m1 δ O1 R Q h1 (e.mono s1) t1 (fn.mono s1)
    | true => exact fn _ H1 F1 m1 _ O1 s1 h1 (.bl true) t1
  | _ => exact t1.elim⟩
theorem snd_notV (ha : Snd K ta da) : Snd K (tNotV ta) (dNotV da) := ⟨fun σ H F m δ O R Q h e t fn => ha.go σ H F m δ O _ _ h e t fun v H1 F1 m1 p O1 s1 h1 r1 t1 => by
  cases r1 with
  | bl k => exact ⟨k, rfl, fn _ H1 F1 m1 _ O1 s1 h1 (.bl _) t1⟩
  | _ => exact t1.elim⟩
theorem pd_one {op : BoolOp} (h : PD X a ta da) : PD X (.BoolOp op [a] pos) ta da := ⟨pe_one h.pe, h.sn⟩
theorem pd_and (ha : PD X a ta da) (hb : PD X (.BoolOp .And (b :: rest) pos) tb db) : PD X (.BoolOp .And (a :: b :: rest) pos) (tAndV ta tb) (dAndV da db) := ⟨pe_and ha.pe hb.pe, snd_andV ha.sn hb.sn⟩
theorem pd_or (ha : PD X a ta da) (hb : PD X (.BoolOp .Or (b :: rest) pos) tb db) : PD X (.BoolOp .Or (a :: b :: rest) pos) (tOrV ta tb) (dOrV da db) := ⟨pe_or ha.pe hb.pe, snd_orV ha.sn hb.sn⟩
theorem pd_not (ha : PD X a ta da) : PD X (.UnaryOp .Not a pos) (tNotV ta) (dNotV da) := ⟨pe_not ha.pe, snd_notV ha.sn⟩
end

/-! ### numbers -/
def Bd (n : Nat) (i : Int) : Prop := i.natAbs < 2 ^ n
theorem two_le {n k : Nat} (h : n ≤ k) : (2 : Nat) ^ n ≤ 2 ^ k := Nat.pow_le_pow_right (by decide) h
theorem Bd.mono {n k : Nat} {i : Int} (h : Bd n i) (l : n ≤ k) : Bd k i := Nat.lt_of_lt_of_le h (two_le l)
theorem Bd.add {n k : Nat} {i j : Int} (h : Bd n i) (h' : Bd k j) : Bd (n + k + 1) (i + j) := by
  unfold Bd at *
  have a1 := two_le (show n ≤ n + k by omega)
  have a2 := two_le (show k ≤ n + k by omega)
  have e : (2 : Nat) ^ (n + k + 1) = 2 ^ (n + k) + 2 ^ (n + k) := by rw [Nat.pow_succ]; omega
  omega
theorem Bd.add' {n : Nat} {i j : Int} (h : Bd n i) (h' : Bd n j) : Bd (n + 1) (i + j) := by
  unfold Bd at *
  have e : (2 : Nat) ^ (n + 1) = 2 ^ n + 2 ^ n := by rw [Nat.pow_succ]; omega
  omega
theorem Bd.mul {n k : Nat} {i j : Int} (h : Bd n i) (h' : Bd k j) : Bd (n + k) (i * j) := wide_lt h h'
theorem Bd.neg {n : Nat} {i : Int} (h : Bd n i) : Bd n (-i) := by unfold Bd at *; omega
theorem Bd.of {n : Nat} {i : Int} (k : Nat) (h : i.natAbs ≤ k) (l : k < 2 ^ n) : Bd n i := Nat.lt_of_le_of_lt h l
theorem mulOk {i j : Int} (h : Bd 3000 i) (h' : Bd 3000 j) : CMulW i j := wide_mul h h' (by decide) (by decide) (by decide)
/-- what * asks of two numbers -/
def MulOk (i j : Int) : Prop := (Bd 3000 i ∧ Bd 3000 j) ∨ Bd 64 i ∨ Bd 64 j
def CMulB (i j : Int) : Prop := CMulW i j ∨ CMul i j
theorem MulOk.ok {i j : Int} (h : MulOk i j) : CMulB i j := by
  rcases h with h | h | h
  · exact .inl (mulOk h.1 h.2)
  · unfold Bd at h
    exact .inr (.inl ⟨by omega, by omega⟩)
  · unfold Bd at h
    exact .inr (.inr ⟨by omega, by omega⟩)

section
variable {K : PySem.W.Frag} {X : Cx}
def i2 (g : Int → Int → D) : DOp := fun O a b R => match a, b with
  | .int i, .int j => R (g i j) O
  | _, _ => False
def i2c (C : Int → Int → Prop) (g : Int → Int → D) : DOp := fun O a b R => match a, b with
  | .int i, .int j => C i j ∧ R (g i j) O
  | _, _ => False
theorem sndo_i2 {g : Int → Int → V} {g' : Int → Int → D} (hg : ∀ i j F m, Rep K F m (g i j) (g' i j)) : SndO K (rI0 g) (i2 g') := ⟨fun H F m O x y a b R Q h ra rb t fn => by
  unfold i2 at t
  split at t
  · rename_i i j
    cases ra; cases rb
    exact ⟨i, j, rfl, rfl, fn.here h (hg i j F m) t⟩
  · exact t.elim⟩
theorem sndo_i2c {C C' : Int → Int → Prop} {g : Int → Int → V} {g' : Int → Int → D} (hC : ∀ i j, C' i j → C i j) (hg : ∀ i j F m, Rep K F m (g i j) (g' i j)) : SndO K (rI C g) (i2c C' g') := ⟨fun H F m O x y a b R Q h ra rb t fn => by
  unfold i2c at t
  split at t
  · rename_i i j
    cases ra; cases rb
    exact ⟨i, j, rfl, rfl, hC i j t.1, fn.here h (hg i j F m) t.2⟩
  · exact t.elim⟩
def subD : DOp := i2 fun i j => .int (i - j)
theorem sndo_sub : SndO K (rI0 fun i j => .int (i - j)) subD := sndo_i2 fun i j _ _ => .int _
def divD : DOp := i2c (fun _ j => 0 < j ∧ j < 1073741824) fun i j => .int (i / j)
theorem sndo_div : SndO K (rI CDiv fun i j => .int (i / j)) divD := sndo_i2c (fun _ _ h => h) fun i j _ _ => .int _
def modD : DOp := i2c (fun _ j => 0 < j) fun i j => .int (i % j)
theorem sndo_mod : SndO K (rI (fun _ j => 0 < j) fun i j => .int (i % j)) modD := sndo_i2c (fun _ _ h => h) fun i j _ _ => .int _
def powD : DOp := i2c (fun i j => 0 ≤ j ∧ j ≤ 1000 ∧ i.natAbs < 1000) fun i j => .int (i ^ j.toNat)
theorem sndo_pow : SndO K (rI CPow fun i j => .int (i ^ j.toNat)) powD := sndo_i2c (fun i j h => ⟨h.1, by omega, Nat.lt_trans h.2.2 (by decide)⟩) fun i j _ _ => .int _
def negD (ta : DE) : DE := fun δ O R => ta δ O fun a O1 => match a with
  | .int i => R (.int (-i)) O1
  | _ => False
theorem pd_neg {a : Expr} {ta : TE} {da : DE} {pos : Pos} (ha : PD X a ta da) : PD X (.UnaryOp .USub a pos) (tUn (rU fun i => .int (-i)) ta) (negD da) := ⟨pe_un un_neg ha.pe, ⟨fun σ H F m δ O R Q h e t fn =>
  ha.sn.go σ H F m δ O _ _ h e t fun v H1 F1 m1 p O1 s1 h1 r1 t1 => by
    cases r1 with
    | int i => exact ⟨i, rfl, fn _ H1 F1 m1 _ O1 s1 h1 (.int _) t1⟩
    | _ => exact t1.elim⟩⟩
/-! ### + : numbers, texts, tuples, lists -/
def addD : DOp := fun O a b R => match a, b with
  | .int i, .int j => R (.int (i + j)) O
  | .str s, .str t => s.length + t.length ≤ 100000 ∧ R (.str (s ++ t)) O
  | .tup xs, .tup ys => xs.length + ys.length ≤ 100000 ∧ R (.tup (xs ++ ys)) O
  | _, _ => oK (asL O a) fun xs => oK (asL O b) fun ys => xs.length + ys.length ≤ 100000 ∧ R (.lst (xs ++ ys)) O
def rStr2 : R2 := fun x y H Q => ∃ i j, x = .str i ∧ y = .str j ∧ i.length + j.length ≤ sizeLine ∧ Q (.str (i ++ j)) H
def rAdd4 (K : PySem.W.Frag) : R2 := fun x y H Q => rI0 (fun i j => .int (i + j)) x y H Q ∨ (rStr2 x y H Q ∨ (rCatA K x y H Q ∨ rCat x y H Q))
theorem op_add4 : OpR X (binaryOp .Add) (rAdd4 X.K) := op_add.or (OpR.or (r := rStr2) op_add_str (op_catA.or op_cat))
theorem cat_tups {F H : Hp} {m : List Addr} {O : Own} {xs ys : List D} {x y : V} {R : D → Own → Prop} {Q : VK} (h : Hol K F H m O) (ra : Rep K F m x (.tup xs)) (rb : Rep K F m y (.tup ys)) (hz : xs.length + ys.length ≤ 100000) (q : R (.tup (xs ++ ys)) O) (fn : Fin K F H m R Q) : rCatA K x y H Q := by
  obtain ⟨a, us, rfl, ha, r1⟩ := tup_rep h ra
  obtain ⟨b, ws, rfl, hb, r2⟩ := tup_rep h rb
  have l1 := r1.length
  have l2 := r2.length
  refine ⟨a, b, us, ws, rfl, rfl, SqT.of ha, SqT.of hb, sz5 (by omega), fun e => ?_, fun e e' => ?_, fun e e' p n => fn.tup h (r1.append r2) q p n⟩
  · have e2 : xs = [] := List.eq_nil_of_length_eq_zero (by rw [← l1, e] <;> rfl)
    subst e2
    exact fn.here h rb q
  · have e2 : ys = [] := List.eq_nil_of_length_eq_zero (by rw [← l2, e'] <;> rfl)
    subst e2
    rw [List.append_nil] at q
    exact fn.here h ra q
theorem sndo_add : SndO K (rAdd4 K) addD := ⟨fun H F m O x y a b R Q h ra rb t fn => by
  unfold addD at t
  split at t
  · rename_i i j
    cases ra; cases rb
    exact .inl ⟨i, j, rfl, rfl, fn.here h (.int _) t⟩
  · rename_i i j
    cases ra; cases rb
    exact .inr (.inl ⟨i, j, rfl, rfl, sz5 t.1, fn.here h (.str _) t.2⟩)
  · exact .inr (.inr (.inl (cat_tups h ra rb t.1 t.2 fn)))
  · obtain ⟨xs, e1, t⟩ := t.ex
    obtain ⟨ys, e2, t⟩ := t.ex
    obtain ⟨p, us, rfl, hp, r1⟩ := asL_rep h ra e1
    obtain ⟨q, ws, rfl, hq, r2⟩ := asL_rep h rb e2
    have l1 := r1.length
    have l2 := r2.length
    exact .inr (.inr (.inr ⟨p, q, us, ws, rfl, rfl, hp, hq, sz5 (by omega), fun l n => fn.lst h (r1.append r2) t.2 l n⟩))⟩
/-- list + list, a list that may change -/
def dCat (ta tb : DE) : DA := fun δ O R => ta δ O fun a O1 => tb δ O1 fun b O2 => oK (asL O2 a) fun xs => oK (asL O2 b) fun ys => xs.length + ys.length ≤ 100000 ∧ R (xs ++ ys) O2
theorem pl_cat {a b : Expr} {ta tb : TE} {da db : DE} {pos : Pos} (ha : PD X a ta da) (hb : PD X b tb db) : PDL X (.BinOp a .Add b pos) (tOp rCat ta tb) (dCat da db) := ⟨pe_op op_cat ha.pe hb.pe, ⟨fun σ H F m δ O R Q h e t fn =>
  ha.sn.go σ H F m δ O _ _ h e t fun x H1 F1 m1 p O1 s1 h1 r1 t1 => hb.sn.go σ H1 F1 m1 δ O1 _ _ h1 (e.mono s1) t1 fun y H2 F2 m2 q O2 s2 h2 r2 t2 => by
    obtain ⟨xs, e1, t2⟩ := t2.ex
    obtain ⟨ys, e2, t2⟩ := t2.ex
    obtain ⟨p, us, rfl, hp, r1⟩ := asL_rep h2 (r1.mono s2) e1
    obtain ⟨q, ws, rfl, hq, r2⟩ := asL_rep h2 r2 e2
    have l1 := r1.length
    have l2 := r2.length
    exact ⟨p, q, us, ws, rfl, rfl, hp, hq, sz5 (by omega), fun l n => (fn.mono (s1.trans s2)).lst h2 (r1.append r2) t2.2 l n⟩⟩⟩
/-! ### * : numbers, a list some times, a tuple some times -/
def mulD : DOp := fun O a b R => match a, b with
  | .int i, .int j => MulOk i j ∧ R (.int (i * j)) O
  | .tup xs, .int k => (xs ≠ [] ∧ 2 ≤ k ∧ k ≤ 1000 ∧ xs.length ≤ 1000) ∧ R (.tup (List.replicate k.toNat xs).flatten) O
  | _, .int k => oK (asL O a) fun xs => (0 ≤ k ∧ k ≤ 100000 ∧ xs.length * k.toNat ≤ 100000) ∧ R (.lst (List.replicate k.toNat xs).flatten) O
  | _, _ => False
def rMul3 (K : PySem.W.Frag) : R2 := fun x y H Q => rI CMulB (fun i j => .int (i * j)) x y H Q ∨ (rRepT K x y H Q ∨ rRep x y H Q)
theorem op_mulB : OpR X (binaryOp .Mult) (rI CMulB fun i j => .int (i * j)) := fun pins s σ H x y v u Q I rx ry h => by
  obtain ⟨i, j, e1, e2, c, q⟩ := h
  rcases c with c | c
  · exact op_mulW pins s σ H x y v u Q I rx ry ⟨i, j, e1, e2, c, q⟩
  · exact op_mul pins s σ H x y v u Q I rx ry ⟨i, j, e1, e2, c, q⟩
theorem op_mul3 : OpR X (binaryOp .Mult) (rMul3 X.K) := op_mulB.or (op_repT.or op_rep)
theorem sndo_mul : SndO K (rMul3 K) mulD := ⟨fun H F m O x y a b R Q h ra rb t fn => by
  unfold mulD at t
  split at t
  · rename_i i j
    cases ra; cases rb
    exact .inl ⟨i, j, rfl, rfl, t.1.ok, fn.here h (.int _) t.2⟩
  · rename_i xs k
    cases rb
    obtain ⟨p, us, rfl, hp, r1⟩ := tup_rep h ra
    have l1 := r1.length
    refine .inr (.inl ⟨p, k, us, rfl, rfl, SqT.of hp, fun e => t.1.1 ?_, t.1.2.1, t.1.2.2.1, by omega, fun l n => fn.tup h (r1.rep k.toNat) t.2 l n⟩)
    exact List.eq_nil_of_length_eq_zero (by rw [← l1, e] <;> rfl)
  · rename_i k _ _
    cases rb
    obtain ⟨xs, e1, t⟩ := t.ex
    obtain ⟨p, us, rfl, hp, r1⟩ := asL_rep h ra e1
    have l1 := r1.length
    refine .inr (.inr ⟨p, k, us, rfl, rfl, hp, by omega, by omega, sz5 (by rw [l1]; exact t.1.2.2), fun l n => fn.lst h (r1.rep k.toNat) t.2 l n⟩)
  · exact t.elim⟩
def dTimes (ta tb : DE) : DA := fun δ O R => ta δ O fun a O1 => tb δ O1 fun b O2 => oK (asL O2 a) fun xs => match b with
  | .int k => (0 ≤ k ∧ k ≤ 100000 ∧ xs.length * k.toNat ≤ 100000) ∧ R (List.replicate k.toNat xs).flatten O2
  | _ => False
theorem pl_times {a b : Expr} {ta tb : TE} {da db : DE} {pos : Pos} (ha : PD X a ta da) (hb : PD X b tb db) : PDL X (.BinOp a .Mult b pos) (tOp rRep ta tb) (dTimes da db) := ⟨pe_op op_rep ha.pe hb.pe, ⟨fun σ H F m δ O R Q h e t fn =>
  ha.sn.go σ H F m δ O _ _ h e t fun x H1 F1 m1 p O1 s1 h1 r1 t1 => hb.sn.go σ H1 F1 m1 δ O1 _ _ h1 (e.mono s1) t1 fun y H2 F2 m2 q O2 s2 h2 r2 t2 => by
    obtain ⟨xs, e1, t2⟩ := t2.ex
    obtain ⟨p, us, rfl, hp, r1⟩ := asL_rep h2 (r1.mono s2) e1
    have l1 := r1.length
    cases r2 with
    | int k => exact ⟨p, k, us, rfl, rfl, hp, by omega, by omega, sz5 (by rw [l1]; exact t2.1.2.2), fun l n => (fn.mono (s1.trans s2)).lst h2 (r1.rep k.toNat) t2.2 l n⟩
    | _ => exact t2.elim⟩⟩

/-! ### the order -/
def leD : DOp := i2 fun i j => .bl (decide (i ≤ j))
def gtD : DOp := i2 fun i j => .bl (decide (j < i))
def geD : DOp := i2 fun i j => .bl (decide (j ≤ i))
theorem sndo_le : SndO K (rI0 fun i j => .bl (decide (i ≤ j))) leD := sndo_i2 fun i j _ _ => .bl _
theorem sndo_gt : SndO K (rI0 fun i j => .bl (decide (j < i))) gtD := sndo_i2 fun i j _ _ => .bl _
theorem sndo_ge : SndO K (rI0 fun i j => .bl (decide (j ≤ i))) geD := sndo_i2 fun i j _ _ => .bl _
def intsD : List D → Option (List Int)
  | [] => some []
  | .int i :: r => (intsD r).map (i :: ·)
  | _ :: _ => none
theorem intsD_eq : ∀ {ds : List D} {ns : List Int}, intsD ds = some ns → ds = ns.map D.int
  | [], ns, h => by cases h; rfl
  | .int i :: r, ns, h => by
    unfold intsD at h
    cases e : intsD r with
    | none => rw [e] at h; cases h
    | some ms => rw [e] at h; cases h; rw [intsD_eq e]; rfl
  | .non :: _, _, h => by cases h
  | .bl _ :: _, _, h => by cases h
  | .str _ :: _, _, h => by cases h
  | .tup _ :: _, _, h => by cases h
  | .lst _ :: _, _, h => by cases h
  | .ins _ _ :: _, _, h => by cases h
  | .scr _ :: _, _, h => by cases h
  | .own _ :: _, _, h => by cases h
  | .ref _ :: _, _, h => by cases h
theorem intsD_map : ∀ ns : List Int, intsD (ns.map D.int) = some ns
  | [] => rfl
  | n :: ns => by
    show (intsD (ns.map D.int)).map (n :: ·) = _
    rw [intsD_map ns]
    rfl
def ltD : DOp := fun O a b R => match a, b with
  | .int i, .int j => R (.bl (decide (i < j))) O
  | .tup xs, .tup ys => oK (intsD xs) fun ns => oK (intsD ys) fun ms => R (.bl (HT.lexLt ns ms)) O
  | _, _ => False
def rLt2 (K : PySem.W.Frag) : R2 := fun x y H Q => rI0 (fun i j => .bl (decide (i < j))) x y H Q ∨ rLtT K x y H Q
theorem op_lt2 (hu : X.A.units < cLine) : OpR X (compareOp .Lt) (rLt2 X.K) := op_lt.or (op_ltT hu)
theorem sndo_lt : SndO K (rLt2 K) ltD := ⟨fun H F m O x y a b R Q h ra rb t fn => by
  unfold ltD at t
  split at t
  · rename_i i j
    cases ra; cases rb
    exact .inl ⟨i, j, rfl, rfl, fn.here h (.bl _) t⟩
  · obtain ⟨ns, e1, t⟩ := t.ex
    obtain ⟨ms, e2, t⟩ := t.ex
    obtain ⟨p, us, rfl, hp, r1⟩ := tup_rep h ra
    obtain ⟨q, ws, rfl, hq, r2⟩ := tup_rep h rb
    rw [intsD_eq e1] at r1
    rw [intsD_eq e2] at r2
    rw [r1.ints] at hp
    rw [r2.ints] at hq
    exact .inr ⟨p, q, ns, ms, rfl, rfl, SqT.of hp, SqT.of hq, fn.here h (.bl _) t⟩
  · exact t.elim⟩

/-! ### == by what the data are -/
def pyL (f : D → Option PyData) : List D → Option (List PyData)
  | [] => some []
  | d :: ds => match f d, pyL f ds with
    | some p, some ps => some (p :: ps)
    | _, _ => none
def pyD (O : Own) : Nat → D → Option PyData
  | 0, _ => none
  | n + 1, d => match d with
    | .non => some .none
    | .bl b => some (.bool b)
    | .int i => some (.int i)
    | .str s => if PyData.strOk s = true then some (.str s) else none
    | .tup ds => (pyL (pyD O n) ds).map .tuple
    | .lst ds => (pyL (pyD O n) ds).map .list
    | .own h => match O[h]? with
      | some (some (.lst ds)) => (pyL (pyD O n) ds).map .list
      | _ => none
    | _ => none
theorem pyL_cons {f : D → Option PyData} {d : D} {ds : List D} {q : List PyData} (e : pyL f (d :: ds) = some q) : ∃ p ps, f d = some p ∧ pyL f ds = some ps ∧ q = p :: ps := by
  unfold pyL at e
  split at e
  · rename_i p ps h1 h2
    cases e
    exact ⟨p, ps, h1, h2, rfl⟩
  · cases e
theorem pyD_dp {O : Own} {F H : Hp} {m : List Addr} (h : Hol K F H m O) : ∀ (n : Nat) (d : D) (v : V) (p : PyData), Rep K F m v d → pyD O n d = some p → Dp K H v p ∧ PyData.canLay0 p = true ∧ PyData.depth p ≤ n
  | 0, _, _, _, _, e => by cases e
  | n + 1, d, v, p, r, e => by
    have ih := pyD_dp h n
    have all : ∀ (ds : List D) (vs : List V) (ps : List PyData), RepL K F m vs ds → pyL (pyD O n) ds = some ps → DpAll K H vs ps ∧ PyData.canLayAll0 ps = true ∧ PyData.depthAll ps ≤ n := by
      intro ds
      induction ds with
      | nil =>
        intro vs ps r e
        cases r
        cases e
        exact ⟨.nil, by simp only [PyData.canLayAll0], by simp only [PyData.depthAll]; omega⟩
      | cons d ds ihl =>
        intro vs ps r e
        obtain ⟨q, qs, e1, e2, rfl⟩ := pyL_cons e
        cases r with
        | cons r1 r2 =>
          obtain ⟨a1, a2, a3⟩ := ih d _ q r1 e1
          obtain ⟨b1, b2, b3⟩ := ihl _ qs r2 e2
          refine ⟨.cons a1 b1, ?_, ?_⟩
          · simp only [PyData.canLayAll0, a2, b2, Bool.and_self]
          · simp only [PyData.depthAll]
            omega
    have okL : ∀ {a : Addr} {xs : List V} {ds : List D} {ps : List PyData}, H a = some (.lst xs) → RepL K F m xs ds → pyL (pyD O n) ds = some ps → Dp K H (.ref a) (.list ps) ∧ PyData.canLay0 (.list ps) = true ∧ PyData.depth (.list ps) ≤ n + 1 := fun ha r e => by
      obtain ⟨a1, a2, a3⟩ := all _ _ _ r e
      refine ⟨.lst (SqL.of ha) a1, by simp only [PyData.canLay0]; exact a2, ?_⟩
      simp only [PyData.depth]
      omega
    have okM : ∀ {f : List PyData → PyData} {o : Option (List PyData)} {p : PyData}, o.map f = some p → ∃ ps, o = some ps ∧ p = f ps := fun {f o p} e => by
      cases o with
      | none => cases e
      | some ps => exact ⟨ps, rfl, (Option.some.inj e).symm⟩
    cases r with
    | non => cases e; exact ⟨.non, by simp only [PyData.canLay0], by simp only [PyData.depth]; omega⟩
    | bl b => cases e; exact ⟨.bl b, by simp only [PyData.canLay0], by simp only [PyData.depth]; omega⟩
    | int i => cases e; exact ⟨.int i, by simp only [PyData.canLay0], by simp only [PyData.depth]; omega⟩
    | str s =>
      unfold pyD at e
      dsimp only at e
      split at e
      · rename_i q
        cases e
        exact ⟨.str s, by simp only [PyData.canLay0]; exact q, by simp only [PyData.depth]; omega⟩
      · cases e
    | tup q r =>
      obtain ⟨ps, e1, rfl⟩ := okM e
      obtain ⟨a1, a2, a3⟩ := all _ _ _ r e1
      refine ⟨.tup (SqT.of (h.ex _ _ q)) a1, by simp only [PyData.canLay0]; exact a2, ?_⟩
      simp only [PyData.depth]
      omega
    | lst q r =>
      obtain ⟨ps, e1, rfl⟩ := okM e
      exact okL (h.ex _ _ q) r e1
    | @own k a q =>
      unfold pyD at e
      dsimp only at e
      split at e
      · rename_i ds q'
        obtain ⟨_, ho, e1, e2⟩ := h.at_ q' q
        cases e2 with
        | lst r =>
          obtain ⟨ps, e3, rfl⟩ := okM e
          exact okL e1 r e3
      · cases e
    | _ => cases e
theorem pyD_shaped {O : Own} {F H : Hp} {m : List Addr} (h : Hol K F H m O) {d : D} {v : V} {p : PyData} (r : Rep K F m v d) (e : pyD O 40 d = some p) : Dp K H v p ∧ SeqAt.shaped p = true := by
  obtain ⟨a, b, c⟩ := pyD_dp h 40 d v p r e
  refine ⟨a, ?_⟩
  show (p.canLay0 && decide (p.depth ≤ 64)) = true
  rw [b, Bool.true_and]
  exact decide_eq_true (by omega)
theorem eqv_int (a b : Int) : PyData.eqv (.int a) (.int b) = decide (a = b) := by
  simp only [PyData.eqv]
  exact Bool.beq_eq_decide_eq a b
theorem eqv_str (a b : Str) : PyData.eqv (.str a) (.str b) = decide (a = b) := by
  simp only [PyData.eqv]
  exact Bool.beq_eq_decide_eq a b
def eqG : DOp := fun O a b R => oK (pyD O 40 a) fun p => oK (pyD O 40 b) fun q => R (.bl (PyData.eqv p q)) O
/-- ==: of two numbers, of two texts (the answer is not worked out by the reading), of any data -/
def eqD : DOp := fun O a b R => match a, b with
  | .int i, .int j => R (.bl (decide (i = j))) O
  | .str s, .str t => (PyData.strOk s = true ∧ PyData.strOk t = true) ∧ ∀ k : Bool, k = decide (s = t) → R (.bl k) O
  | _, _ => eqG O a b R
def neD : DOp := fun O a b R => eqD O a b fun d O' => match d with
  | .bl k => R (.bl (!k)) O'
  | _ => False
theorem py_str40 {O : Own} {s : Str} (h : PyData.strOk s = true) : pyD O 40 (.str s) = some (.str s) := by
  show (if PyData.strOk s = true then some (PyData.str s) else none) = _
  rw [if_pos h]
theorem eqD_G {O : Own} {a b : D} {R : D → Own → Prop} (t : eqD O a b R) : eqG O a b R := by
  unfold eqD at t
  split at t
  · show oK (some (PyData.int _)) fun p => oK (some (PyData.int _)) fun q => R (.bl (PyData.eqv p q)) O
    show R (.bl (PyData.eqv (.int _) (.int _))) O
    rw [eqv_int]
    exact t
  · obtain ⟨⟨h1, h2⟩, h⟩ := t
    unfold eqG
    rw [py_str40 h1, py_str40 h2]
    exact h _ (eqv_str _ _)
  · exact t
theorem eqG_D {O : Own} {a b : D} {R : D → Own → Prop} (t : eqG O a b R) : eqD O a b R := by
  unfold eqD
  split
  · have t' : R (.bl (PyData.eqv (.int _) (.int _))) O := t
    rw [eqv_int] at t'
    exact t'
  · rename_i s u
    have ok : ∀ {x : Str} {p : PyData}, pyD O 40 (.str x) = some p → PyData.strOk x = true := fun {x p} e => by
      have e' : (if PyData.strOk x = true then some (PyData.str x) else none) = some p := e
      cases q : PyData.strOk x with
      | true => rfl
      | false => rw [q, if_neg Bool.false_ne_true] at e'; cases e'
    obtain ⟨p, e1, t⟩ := oK.ex t
    obtain ⟨q, e2, t⟩ := t.ex
    have h1 := ok e1
    have h2 := ok e2
    rw [py_str40 h1] at e1
    rw [py_str40 h2] at e2
    cases e1
    cases e2
    refine ⟨⟨h1, h2⟩, fun k hk => ?_⟩
    rw [eqv_str] at t
    rw [hk]
    exact t
  · exact t
theorem sndo_eq : SndO K (rEqD K) eqD := ⟨fun H F m O x y a b R Q h ra rb t fn => by
  obtain ⟨p, e1, t⟩ := oK.ex (eqD_G t)
  obtain ⟨q, e2, t⟩ := t.ex
  obtain ⟨d1, s1⟩ := pyD_shaped h ra e1
  obtain ⟨d2, s2⟩ := pyD_shaped h rb e2
  exact ⟨p, q, d1, d2, s1, s2, fn.here h (.bl _) t⟩⟩
theorem sndo_ne : SndO K (rNeD K) neD := ⟨fun H F m O x y a b R Q h ra rb t fn => by
  obtain ⟨p, e1, t⟩ := oK.ex (eqD_G t)
  obtain ⟨q, e2, t⟩ := t.ex
  obtain ⟨d1, s1⟩ := pyD_shaped h ra e1
  obtain ⟨d2, s2⟩ := pyD_shaped h rb e2
  exact ⟨p, q, d1, d2, s1, s2, fn.here h (.bl _) t⟩⟩
/-! ### in, not in: a list of data, a tuple of texts -/
def strsD : List D → Option (List Str)
  | [] => some []
  | .str i :: r => (strsD r).map (i :: ·)
  | _ :: _ => none
theorem strsD_rep {F : Hp} {m : List Addr} : ∀ {ds : List D} {ns : List Str} {vs : List V}, strsD ds = some ns → RepL K F m vs ds → vs = ns.map V.str
  | [], ns, vs, h, r => by cases h; cases r; rfl
  | .str i :: r, ns, vs, h, rr => by
    unfold strsD at h
    cases e : strsD r with
    | none => rw [e] at h; cases h
    | some ms =>
      rw [e] at h
      cases h
      cases rr with
      | cons r1 r2 => cases r1; rw [strsD_rep e r2]; rfl
  | .non :: _, _, _, h, _ => by cases h
  | .bl _ :: _, _, _, h, _ => by cases h
  | .int _ :: _, _, _, h, _ => by cases h
  | .tup _ :: _, _, _, h, _ => by cases h
  | .lst _ :: _, _, _, h, _ => by cases h
  | .ins _ _ :: _, _, _, h, _ => by cases h
  | .scr _ :: _, _, _, h, _ => by cases h
  | .own _ :: _, _, _, h, _ => by cases h
  | .ref _ :: _, _, _, h, _ => by cases h
def inD : DOp := fun O a b R => match a, b with
  | .str s, .tup ds => oK (strsD ds) fun ss => ∀ k : Bool, k = (ss.any fun x => x == s) → R (.bl k) O
  | _, _ => oK (pyD O 40 a) fun p => oK (asL O b) fun ds => oK (pyL (pyD O 39) ds) fun ps => R (.bl (ps.any fun z => PyData.eqv z p)) O
def notInD : DOp := fun O a b R => oK (pyD O 40 a) fun p => oK (asL O b) fun ds => oK (pyL (pyD O 39) ds) fun ps => R (.bl (!ps.any fun z => PyData.eqv z p)) O
theorem asL_py {O : Own} {d : D} {ds : List D} {ps : List PyData} (e : asL O d = some ds) (f : pyL (pyD O 39) ds = some ps) : pyD O 40 d = some (.list ps) := by
  cases d with
  | lst ys =>
    cases e
    show (pyL (pyD O 39) ds).map PyData.list = _
    rw [f]
    rfl
  | own h =>
    unfold asL at e
    dsimp only at e
    split at e
    · rename_i q
      cases e
      show (match O[h]? with | some (some (.lst ds)) => (pyL (pyD O 39) ds).map PyData.list | _ => none) = _
      rw [q]
      dsimp only
      rw [f]
      rfl
    · cases e
  | _ => cases e
def rIn2 (K : PySem.W.Frag) : R2 := fun x y H Q => rInD K x y H Q ∨ rIn K false x y H Q
theorem op_in2 (hu : X.A.units + 65 < cLine) : OpR X (compareOp .In) (rIn2 X.K) := (op_inD hu).or op_in_seq
theorem any_str (s : Str) : ∀ ss : List Str, inV (.str s) (ss.map V.str) = ss.any fun x => x == s
  | [] => rfl
  | x :: r => by
    show ((x == s) || inV (.str s) (r.map V.str)) = _
    rw [any_str s r]
    rfl
theorem flat_strs : ∀ ss : List Str, (ss.map V.str).all flatV = true
  | [] => rfl
  | x :: r => flat_strs r
theorem sndo_in : SndO K (rIn2 K) inD := ⟨fun H F m O x y a b R Q h ra rb t fn => by
  unfold inD at t
  split at t
  · obtain ⟨ss, e1, t⟩ := t.ex
    cases ra
    obtain ⟨q, ws, rfl, hq, r2⟩ := tup_rep h rb
    rw [strsD_rep e1 r2] at hq
    refine .inr ⟨q, ss.map V.str, rfl, .inr (SqT.of hq), rfl, flat_strs ss, ?_⟩
    rw [any_str]
    exact fn.here h (.bl _) (t _ rfl)
  · obtain ⟨p, e1, t⟩ := t.ex
    obtain ⟨ds, e2, t⟩ := t.ex
    obtain ⟨ps, e3, t⟩ := t.ex
    obtain ⟨d1, s1⟩ := pyD_shaped h ra e1
    obtain ⟨d2, s2⟩ := pyD_shaped h rb (asL_py e2 e3)
    exact .inl ⟨p, ps, d1, d2, s1, s2, fn.here h (.bl _) t⟩⟩
theorem sndo_notIn : SndO K (rNotInD K) notInD := ⟨fun H F m O x y a b R Q h ra rb t fn => by
  obtain ⟨p, e1, t⟩ := oK.ex t
  obtain ⟨ds, e2, t⟩ := t.ex
  obtain ⟨ps, e3, t⟩ := t.ex
  obtain ⟨d1, s1⟩ := pyD_shaped h ra e1
  obtain ⟨d2, s2⟩ := pyD_shaped h rb (asL_py e2 e3)
  exact ⟨p, ps, d1, d2, s1, s2, fn.here h (.bl _) t⟩⟩
/-! ### is, is not: None; truths -/
def isNon : D → Bool
  | .non => true
  | _ => false
def isD : DOp := fun O a b R => match b with
  | .non => R (.bl (isNon a)) O
  | _ => False
def notD : DOp := fun O a b R => match a, b with
  | _, .non => R (.bl (!isNon a)) O
  | .bl x, .bl y => R (.bl (!decide (x = y))) O
  | _, _ => False
theorem isNon_rep {F : Hp} {m : List Addr} {v : V} {d : D} (r : Rep K F m v d) : decide (v = .non) = isNon d := by cases r <;> rfl
def rIsN1 : R2 := fun x y H Q => y = .non ∧ Q (.bl (decide (x = .non))) H
def rNotN1 : R2 := fun x y H Q => y = .non ∧ Q (.bl (!decide (x = .non))) H
theorem op_isN1' : OpR X (compareOp .Is) rIsN1 := op_isN
def rNot2 : R2 := fun x y H Q => rNotN1 x y H Q ∨ rNotB x y H Q
theorem op_not2 : OpR X (compareOp .IsNot) rNot2 := OpR.or (r := rNotN1) op_notN op_notBl
theorem sndo_is : SndO K rIsN1 isD := ⟨fun H F m O x y a b R Q h ra rb t fn => by
  unfold isD at t
  split at t
  · cases rb
    exact ⟨rfl, fn.here h (by rw [isNon_rep ra]; exact .bl _) t⟩
  · exact t.elim⟩
theorem sndo_not : SndO K rNot2 notD := ⟨fun H F m O x y a b R Q h ra rb t fn => by
  unfold notD at t
  split at t
  · cases rb
    exact .inl ⟨rfl, fn.here h (by rw [isNon_rep ra]; exact .bl _) t⟩
  · cases ra
    cases rb
    exact .inr ⟨_, _, rfl, rfl, fn.here h (.bl _) t⟩
  · exact t.elim⟩
end
end DL

/-! DL, part d: displays, subscripts, slices, attributes, calls of built-ins. -/
namespace DL
open PySem L2

/-! ### argument lists, displays -/
def dNil : DA := fun _ O R => R [] O
def dCons (ta : DE) (tr : DA) : DA := fun δ O R => ta δ O fun d O1 => tr δ O1 fun ds O2 => R (d :: ds) O2
/-- at most n items -/
def fewL : Nat → List D → Prop → Prop
  | _, [], p => p
  | n + 1, _ :: ds, p => fewL n ds p
  | 0, _ :: _, _ => False
theorem fewL_ok : ∀ {n : Nat} {ds : List D} {p : Prop}, fewL n ds p → ds.length ≤ n ∧ p
  | 0, [], _, h => ⟨Nat.zero_le _, h⟩
  | n + 1, [], _, h => ⟨Nat.zero_le _, h⟩
  | n + 1, _ :: ds, _, h => by
    obtain ⟨a, b⟩ := fewL_ok (n := n) (ds := ds) h
    exact ⟨by rw [List.length_cons]; omega, b⟩
  | 0, _ :: _, _, h => h.elim
def dTup (t : DA) : DE := fun δ O R => t δ O fun ds O1 => fewL 1000 ds (R (.tup ds) O1)
def dLst (t : DA) : DA := fun δ O R => t δ O fun ds O1 => fewL 1000 ds (R ds O1)
section
variable {K : PySem.W.Frag} {X : Cx} {e : Expr} {es : List Expr} {te : TE} {t : TA} {de : DE} {da : DA} {pos : Pos}
theorem pda_nil : PDA X [] tNil dNil := ⟨pa_nil, ⟨fun σ H F m δ O R Q h en t fn => fn [] H F m [] O .refl h .nil t⟩⟩
theorem snda_cons (h1 : Snd K te de) (h2 : SndA K t da) : SndA K (tCons te t) (dCons de da) := ⟨fun σ H F m δ O R Q h en t fn => h1.go σ H F m δ O _ _ h en t fun x H1 F1 m1 p O1 s1 h1 r1 t1 =>
  h2.go σ H1 F1 m1 δ O1 _ _ h1 (en.mono s1) t1 fun vs H2 F2 m2 ds O2 s2 h2 r2 t2 => fn (x :: vs) H2 F2 m2 (p :: ds) O2 (s1.trans s2) h2 (.cons (r1.mono s2) r2) t2⟩
theorem pda_cons (h1 : PD X e te de) (h2 : PDA X es t da) (hs : starEach (e :: es) X.env = (false, eval e X.env) :: starEach es X.env := by rfl) : PDA X (e :: es) (tCons te t) (dCons de da) := ⟨pa_cons h1.pe h2.pe hs, snda_cons h1.sn h2.sn⟩
theorem pd_tup {x1 : Nat} (h : PDA X es t da) : PD X (.Tuple es x1 pos) (tTup t) (dTup da) := ⟨pe_tup h.pe, ⟨fun σ H F m δ O R Q hh en hr fn => h.sn.go σ H F m δ O _ _ hh en hr fun vs H1 F1 m1 ds O1 s1 h1 r1 t1 =>
  ⟨sz5 (by rw [r1.length]; have := (fewL_ok t1).1; omega), fun p n => (fn.mono s1).tup h1 r1 (fewL_ok t1).2 p n⟩⟩⟩
theorem pl_lst (h : PDA X es t da) : PDL X (.List es pos) (tLst t) (dLst da) := ⟨pe_lst h.pe, ⟨fun σ H F m δ O R Q hh en hr fn => h.sn.go σ H F m δ O _ _ hh en hr fun vs H1 F1 m1 ds O1 s1 h1 r1 t1 =>
  ⟨sz5 (by rw [r1.length]; have := (fewL_ok t1).1; omega), fun p n => (fn.mono s1).lst h1 r1 (fewL_ok t1).2 p n⟩⟩⟩
end

/-! ### subscripts -/
/-- the i-th, from the end where i is below nought -/
def atD {α : Type} (ds : List α) (i : Int) : Option α := if 0 ≤ i then ds[i.toNat]? else atI ds i
theorem atD_I {α : Type} {ds : List α} {i : Int} {d : α} (h : atD ds i = some d) : atI ds i = some d := by
  unfold atD at h
  split at h
  · rename_i q
    have e : i = ((i.toNat : Nat) : Int) := by omega
    rw [e]
    exact atI_nat h
  · exact h
theorem atD_nat {α : Type} {ds : List α} {i : Nat} {d : α} (h : ds[i]? = some d) : atD ds ((i : Nat) : Int) = some d := by
  unfold atD
  rw [if_pos (by omega), Int.toNat_natCast]
  exact h
def ixD : DOp := fun O a b R => match a, b with
  | .tup ds, .int i => oK (atD ds i) fun d => R d O
  | .scr ns, .int i => oK (atD ns i) fun n => R (.int n) O
  | _, .int i => oK (asL O a) fun ds => oK (atD ds i) fun d => R d O
  | _, _ => False
section
variable {K : PySem.W.Frag} {X : Cx} {F H : Hp} {m : List Addr} {O : Own}
theorem atI_rep {vs : List V} {ds : List D} {i : Int} {d : D} (r : RepL K F m vs ds) (e : atI ds i = some d) : ∃ v, atI vs i = some v ∧ Rep K F m v d := by
  unfold atI at *
  rw [← r.length] at e
  cases q : ixN vs.length i with
  | none => rw [q] at e; cases e
  | some j => rw [q] at e; exact r.get e
theorem atI_map {ns : List Int} {i n : Int} (e : atI ns i = some n) : atI (ns.map V.int) i = some (.int n) := by
  unfold atI at *
  rw [List.length_map]
  cases q : ixN ns.length i with
  | none => rw [q] at e; cases e
  | some j =>
    rw [q] at e
    show (ns.map V.int)[j]? = _
    rw [List.getElem?_map]
    have e' : ns[j]? = some n := e
    rw [e']
    rfl
theorem sndo_ix : SndO K (rIx K) ixD := ⟨fun H F m O x y a b R Q h ra rb t fn => by
  unfold ixD at t
  split at t
  · obtain ⟨d, e, t⟩ := t.ex
    cases rb
    obtain ⟨p, us, rfl, hp, r1⟩ := tup_rep h ra
    obtain ⟨v, e1, r2⟩ := atI_rep r1 (atD_I e)
    exact .inr (.inl ⟨p, us, _, v, rfl, rfl, SqT.of hp, e1, fn.here h r2 t⟩)
  · obtain ⟨n, e, t⟩ := t.ex
    cases rb
    cases ra with
    | scr q => exact .inl ⟨_, _, _, _, rfl, rfl, sqL_mono h.ex q, atI_map (atD_I e), fn.here h (.int n) t⟩
  · obtain ⟨ds, e0, t⟩ := t.ex
    obtain ⟨d, e, t⟩ := t.ex
    cases rb
    obtain ⟨p, us, rfl, hp, r1⟩ := asL_rep h ra e0
    obtain ⟨v, e1, r2⟩ := atI_rep r1 (atD_I e)
    exact .inl ⟨p, us, _, v, rfl, rfl, SqL.of hp, e1, fn.here h r2 t⟩
  · exact t.elim⟩
/-! ### slices -/
abbrev DPt := DSt → Own → (Option Int → Own → Prop) → Prop
structure PDO (X : Cx) (e : Option Expr) (te : TO) (t : DPt) : Prop where
  pe : PO X e te
  sn : ∀ (σ : L2.St) (H F : Hp) (m : List Addr) (δ : DSt) (O : Own) (R : Option Int → Own → Prop) (Q : Option Int → Hp → Prop), Hol X.K F H m O → EnvR X.K F m σ δ → t δ O R →
    (∀ o H' F' m' O', Stp F H m F' H' m' → Hol X.K F' H' m' O' → R o O' → Q o H') → te σ H Q
def dNoPart : DPt := fun _ O R => R none O
def dPart (t : DE) : DPt := fun δ O R => t δ O fun d O' => match d with
  | .int i => R (some i) O'
  | _ => False
theorem pdo_none : PDO X none tNoPart dNoPart := ⟨po_none, fun σ H F m δ O R Q h en t fn => fn none H F m O .refl h t⟩
theorem pdo_some {e : Expr} {te : TE} {t : DE} (h : PD X e te t) : PDO X (some e) (tPart te) (dPart t) := ⟨po_some h.pe, fun σ H F m δ O R Q hh en hr fn => h.sn.go σ H F m δ O _ _ hh en hr fun v H1 F1 m1 d O1 s1 h1 r1 t1 => by
  cases r1 with
  | int i => exact ⟨i, rfl, fn _ H1 F1 m1 O1 s1 h1 t1⟩
  | _ => exact t1.elim⟩
def cutD (ds : List D) (lo hi : Option Int) : List D := (ds.drop (HT.sIx ds.length 0 lo)).take (HT.sIx ds.length ds.length hi - HT.sIx ds.length 0 lo)
theorem RepL.cut {vs : List V} {ds : List D} (r : RepL K F m vs ds) (lo hi : Option Int) : RepL K F m (cutV vs lo hi) (cutD ds lo hi) := by
  unfold cutV cutD
  rw [← r.length]
  exact (r.drop _).take _
theorem RepL.cut_whole {ds : List D} {lo hi : Option Int} (h : HT.sIx ds.length 0 lo = 0 ∧ HT.sIx ds.length ds.length hi = ds.length) : cutD ds lo hi = ds := by
  unfold cutD
  rw [h.1, h.2, List.drop_zero, Nat.sub_zero, List.take_length]
def dSl (ta : DE) (tl th : DPt) : DE := fun δ O R => ta δ O fun a O1 => tl δ O1 fun l O2 => th δ O2 fun u O3 => match a with
  | .tup ds => R (.tup (cutD ds l u)) O3
  | _ => oK (asL O3 a) fun ds => R (.lst (cutD ds l u)) O3
def rSl2 (K : PySem.W.Frag) : V → Option Int → Option Int → Hp → VK → Prop := fun x lo hi H Q => rSlA K x lo hi H Q ∨ rSlL K x lo hi H Q
theorem pd_slice {e : Expr} {lo hi : Option Expr} {te : TE} {de : DE} {tl th : TO} {dl dh : DPt} {p2 pos : Pos} (he : PD X e te de) (hl : PDO X lo tl dl) (hh : PDO X hi th dh) : PD X (.Subscript e (.Slice lo hi none p2) pos) (tSl (rSl2 X.K) te tl th) (dSl de dl dh) :=
  ⟨pe_slice (SlR.or sl_tupA sl_list) he.pe hl.pe hh.pe, ⟨fun σ H F m δ O R Q h en t fn => he.sn.go σ H F m δ O _ _ h en t fun v H1 F1 m1 a O1 s1 h1 r1 t1 =>
    hl.sn σ H1 F1 m1 δ O1 _ _ h1 (en.mono s1) t1 fun l H2 F2 m2 O2 s2 h2 t2 => hh.sn σ H2 F2 m2 δ O2 _ _ h2 (en.mono (s1.trans s2)) t2 fun u H3 F3 m3 O3 s3 h3 t3 => by
      have r3 := r1.mono (s2.trans s3)
      have fn3 := fn.mono (s1.trans (s2.trans s3))
      split at t3
      · rename_i ds
        obtain ⟨p, us, rfl, hp, rr⟩ := tup_rep h3 r3
        refine .inl ⟨p, us, rfl, SqT.of hp, fun w => ?_, fun w q n => fn3.tup h3 (rr.cut l u) t3 q n⟩
        rw [rr.length] at w
        rw [RepL.cut_whole w] at t3
        exact fn3.here h3 r3 t3
      · obtain ⟨ds, e0, t3⟩ := t3.ex
        obtain ⟨p, us, rfl, hp, rr⟩ := asL_rep h3 r3 e0
        exact .inr ⟨p, us, rfl, SqL.of hp, fun q n => fn3.lst h3 (rr.cut l u) t3 q n⟩⟩⟩
/-- a list's slice, a list that may change -/
def dSlL (ta : DE) (tl th : DPt) : DA := fun δ O R => ta δ O fun a O1 => tl δ O1 fun l O2 => th δ O2 fun u O3 => oK (asL O3 a) fun ds => R (cutD ds l u) O3
theorem pl_slice {e : Expr} {lo hi : Option Expr} {te : TE} {de : DE} {tl th : TO} {dl dh : DPt} {p2 pos : Pos} (he : PD X e te de) (hl : PDO X lo tl dl) (hh : PDO X hi th dh) : PDL X (.Subscript e (.Slice lo hi none p2) pos) (tSl (rSlL X.K) te tl th) (dSlL de dl dh) :=
  ⟨pe_slice sl_list he.pe hl.pe hh.pe, ⟨fun σ H F m δ O R Q h en t fn => he.sn.go σ H F m δ O _ _ h en t fun v H1 F1 m1 a O1 s1 h1 r1 t1 =>
    hl.sn σ H1 F1 m1 δ O1 _ _ h1 (en.mono s1) t1 fun l H2 F2 m2 O2 s2 h2 t2 => hh.sn σ H2 F2 m2 δ O2 _ _ h2 (en.mono (s1.trans s2)) t2 fun u H3 F3 m3 O3 s3 h3 t3 => by
      obtain ⟨ds, e0, t3⟩ := t3.ex
      obtain ⟨p, us, rfl, hp, rr⟩ := asL_rep h3 (r1.mono (s2.trans s3)) e0
      exact ⟨p, us, rfl, SqL.of hp, fun q n => (fn.mono (s1.trans (s2.trans s3))).lst h3 (rr.cut l u) t3 q n⟩⟩⟩
def dRev (ta : DE) : DA := fun δ O R => ta δ O fun a O1 => oK (asL O1 a) fun ds => R ds.reverse O1
theorem pl_rev {e : Expr} {te : TE} {de : DE} {k : Nat} {p1 p2 p3 pos : Pos} (he : PD X e te de) : PDL X (.Subscript e (.Slice none none (some (.UnaryOp .USub (.Constant (.int 1) k p1) p2)) p3) pos) (tRevL X.K te) (dRev de) :=
  ⟨pe_revL he.pe, ⟨fun σ H F m δ O R Q h en t fn => he.sn.go σ H F m δ O _ _ h en t fun v H1 F1 m1 a O1 s1 h1 r1 t1 => by
    obtain ⟨ds, e0, t1⟩ := t1.ex
    obtain ⟨p, us, rfl, hp, rr⟩ := asL_rep h1 r1 e0
    exact ⟨p, us, rfl, SqL.of hp, fun q n => (fn.mono s1).lst h1 rr.reverse t1 q n⟩⟩⟩
/-! ### attributes -/
def asI (O : Own) : D → Option (Addr × List (Str × D))
  | .ins C gs => some (C, gs)
  | .own h => match O[h]? with
    | some (some (.ins C gs)) => some (C, gs)
    | _ => none
  | _ => none
theorem asI_rep (h : Hol K F H m O) {v : V} {d : D} {C : Addr} {gs : List (Str × D)} (r : Rep K F m v d) (e : asI O d = some (C, gs)) : ∃ a dx fs, v = .ref a ∧ H a = some (.ins C dx fs) ∧ RepF K F m fs gs := by
  cases r with
  | ins q r => cases e; exact ⟨_, _, _, rfl, h.ex _ _ q, r⟩
  | @own n a q =>
    unfold asI at e
    dsimp only at e
    split at e
    · rename_i C' gs' q'
      cases e
      obtain ⟨_, ho, e1, e2⟩ := h.at_ q' q
      cases e2 with
      | ins r => exact ⟨a, _, _, rfl, e1, r⟩
    · cases e
  | _ => cases e
def dFld (C : Addr) (ta : DE) (f : Str) : DE := fun δ O R => ta δ O fun a O1 => oK (asI O1 a) fun p => p.1 = C ∧ oK (p.2.lookup f) fun d => R d O1
theorem pd_fld {e : Expr} {te : TE} {de : DE} {f : Str} {C : Addr} {pos : Pos} (he : PD X e te de) (cl : Cls X.K C) (na : NoAttr X.K C f) (hb : attributeBase e f X.env (eval e X.env) = eval e X.env := by rfl) : PD X (.Attribute e f pos) (tFld X.K te f) (dFld C de f) :=
  ⟨pe_fld he.pe hb, ⟨fun σ H F m δ O R Q h en t fn => he.sn.go σ H F m δ O _ _ h en t fun v H1 F1 m1 a O1 s1 h1 r1 t1 => by
    obtain ⟨⟨C', gs⟩, e0, e1, t2⟩ := t1.ex
    have e1' : C' = C := e1
    subst e1'
    obtain ⟨d, e2, t1⟩ := t2.ex
    obtain ⟨p, dx, fs, rfl, hp, rr⟩ := asI_rep h1 r1 e0
    obtain ⟨v, e3, r3⟩ := rr.look e2
    exact ⟨p, _, dx, fs, v, rfl, hp, cl, na, e3, (fn.mono s1).here h1 r3 t1⟩⟩⟩
/-! ### built-ins by their names -/
abbrev DCl := Own → List D → (D → Own → Prop) → Prop
structure SndC (K : PySem.W.Frag) (r : List V → Hp → VK → Prop) (f : DCl) : Prop where
  go : ∀ (H F : Hp) (m : List Addr) (O : Own) (vs : List V) (ds : List D) (R : D → Own → Prop) (Q : VK), Hol K F H m O → RepL K F m vs ds → f O ds R → Fin K F H m R Q → r vs H Q
def dCall1 (f : DCl) (t : DA) : DE := fun δ O R => t δ O fun ds O1 => f O1 ds R
theorem snd_cb {r : List V → Hp → VK → Prop} {f : DCl} {t : TA} {da : DA} (hs : SndC K r f) (ha : SndA K t da) : Snd K (tCB r t) (dCall1 f da) := ⟨fun σ H F m δ O R Q h en t fn => ha.go σ H F m δ O _ _ h en t fun vs H1 F1 m1 ds O1 s1 h1 r1 t1 =>
  hs.go H1 F1 m1 O1 vs ds R Q h1 r1 t1 (fn.mono s1)⟩
section
variable {x : Str} {p pos : Pos} {e : Expr} {es : List Expr} {t : TA} {da : DA} {id T : String} {r : List V → Hp → VK → Prop} {f : DCl}
theorem pd_callB (hc : CallR X (.builtin id) r) (hs' : SndC X.K r f) (hg : Gl X x) (hm : X.mg x = none) (hv : bootBuiltins x = some (.builtin id)) (ha : PDA X (e :: es) t da) (hn : x ≠ "__name__" := by decide) (hdb : (x == ("__debug__" : Str)) = false := by decide)
    (he : starEach (e :: es) X.env = (false, eval e X.env) :: starEach es X.env := by rfl) (hpl : (backTo pos (starEach es X.env)).any (·.1) = false := by rfl) : PD X (.Call (.Name x p) (e :: es) [] pos) (tCB r t) (dCall1 f da) :=
  ⟨pe_callB hc hg hm hv ha.pe hn hdb he hpl, snd_cb hs' ha.sn⟩
theorem pd_callTy (hc : CallR X (.type T) r) (hs' : SndC X.K r f) (hg : Gl X x) (hm : X.mg x = none) (hv : bootBuiltins x = some (.type T)) (ha : PDA X (e :: es) t da) (hn : x ≠ "__name__" := by decide) (hdb : (x == ("__debug__" : Str)) = false := by decide)
    (he : starEach (e :: es) X.env = (false, eval e X.env) :: starEach es X.env := by rfl) (hpl : (backTo pos (starEach es X.env)).any (·.1) = false := by rfl) : PD X (.Call (.Name x p) (e :: es) [] pos) (tCB r t) (dCall1 f da) :=
  ⟨pe_callTy hc hg hm hv ha.pe hn hdb he hpl, snd_cb hs' ha.sn⟩
end
/-- len -/
def lenD : DCl := fun O ds R => match ds with
  | [.tup xs] => R (.int xs.length) O
  | [.scr ns] => R (.int ns.length) O
  | [d] => oK (asL O d) fun xs => R (.int xs.length) O
  | _ => False
def rLenS (K : PySem.W.Frag) : List V → Hp → VK → Prop := fun xs H Q => ∃ p ys, xs = [.ref p] ∧ (SqL K H p ys ∨ SqT K H p ys) ∧ Q (.int ys.length) H
theorem cr_len : CallR X (.builtin "len") (rLenS X.K) := call_len_seq
theorem sndc_len : SndC K (rLenS K) lenD := ⟨fun H F m O vs ds R Q h r t fn => by
  unfold lenD at t
  split at t
  · cases r with
    | cons r0 rt =>
      cases rt
      obtain ⟨p, us, rfl, hp, rr⟩ := tup_rep h r0
      exact ⟨p, us, rfl, .inr (SqT.of hp), fn.here h (by rw [rr.length]; exact .int _) t⟩
  · cases r with
    | cons r0 rt =>
      cases rt
      cases r0 with
      | scr q => exact ⟨_, _, rfl, .inl (sqL_mono h.ex q), fn.here h (by rw [List.length_map]; exact .int _) t⟩
  · obtain ⟨xs, e0, t⟩ := t.ex
    cases r with
    | cons r0 rt =>
      cases rt
      obtain ⟨p, us, rfl, hp, rr⟩ := asL_rep h r0 e0
      exact ⟨p, us, rfl, .inl (SqL.of hp), fn.here h (by rw [rr.length]; exact .int _) t⟩
  · exact t.elim⟩
/-- int of a number, of a truth -/
def intD : DCl := fun O ds R => match ds with
  | [.int i] => R (.int i) O
  | [.bl b] => R (.int (if b then 1 else 0)) O
  | _ => False
def rInt1 : List V → Hp → VK → Prop := fun xs H Q => (∃ i, xs = [.int i] ∧ Q (.int i) H) ∨ ∃ k, xs = [.bl k] ∧ Q (.int (if k then 1 else 0)) H
theorem cr_int : CallR X (.type "int") rInt1 := call_int1
theorem sndc_int : SndC K rInt1 intD := ⟨fun H F m O vs ds R Q h r t fn => by
  unfold intD at t
  split at t
  · cases r with
    | cons r0 rt => cases rt; cases r0; exact .inl ⟨_, rfl, fn.here h (.int _) t⟩
  · cases r with
    | cons r0 rt => cases rt; cases r0; exact .inr ⟨_, rfl, fn.here h (.int _) t⟩
  · exact t.elim⟩
/-- tuple of a list, of a tuple -/
def tupleD : DCl := fun O ds R => match ds with
  | [.tup xs] => R (.tup xs) O
  | [d] => oK (asL O d) fun xs => R (.tup xs) O
  | _ => False
def rTupOf (K : PySem.W.Frag) : List V → Hp → VK → Prop := fun xs H Q => ∃ p ys, xs = [.ref p] ∧ ((SqL K H p ys ∧ ∀ l, H l = none → Q (.ref l) (L2.upd H l (.tup ys))) ∨ (SqT K H p ys ∧ Q (.ref p) H))
theorem cr_tuple : CallR X (.type "tuple") (rTupOf X.K) := call_tuple_of
theorem sndc_tuple : SndC K (rTupOf K) tupleD := ⟨fun H F m O vs ds R Q h r t fn => by
  unfold tupleD at t
  split at t
  · cases r with
    | cons r0 rt =>
      cases rt
      obtain ⟨p, us, rfl, hp, rr⟩ := tup_rep h r0
      exact ⟨p, us, rfl, .inr ⟨SqT.of hp, fn.here h r0 t⟩⟩
  · obtain ⟨xs, e0, t⟩ := t.ex
    cases r with
    | cons r0 rt =>
      cases rt
      obtain ⟨p, us, rfl, hp, rr⟩ := asL_rep h r0 e0
      exact ⟨p, us, rfl, .inl ⟨SqL.of hp, fun l n => fn.tup h rr t l n⟩⟩
  · exact t.elim⟩
/-- list of a list, of a tuple: a new list -/
def dList (ta : DE) : DA := fun δ O R => ta δ O fun a O1 => match a with
  | .tup xs => R xs O1
  | _ => oK (asL O1 a) fun xs => R xs O1
def rListOf (K : PySem.W.Frag) : List V → Hp → VK → Prop := fun xs H Q => ∃ p ys, xs = [.ref p] ∧ (SqL K H p ys ∨ SqT K H p ys) ∧ ∀ l, H l = none → Q (.ref l) (L2.upd H l (.lst ys))
theorem cr_list : CallR X (.type "list") (rListOf X.K) := call_list_of
theorem pl_list {x : Str} {p pos : Pos} {e : Expr} {te : TE} {de : DE} (hg : Gl X x) (hm : X.mg x = none) (hv : bootBuiltins x = some (.type "list")) (he : PD X e te de) (hn : x ≠ "__name__" := by decide) (hdb : (x == ("__debug__" : Str)) = false := by decide)
    (hs : starEach [e] X.env = (false, eval e X.env) :: starEach [] X.env := by rfl) (hpl : (backTo pos (starEach [] X.env)).any (·.1) = false := by rfl) : PDL X (.Call (.Name x p) [e] [] pos) (tCB (rListOf X.K) (tCons te tNil)) (dList de) :=
  ⟨pe_callTy cr_list hg hm hv (pa_cons he.pe pa_nil hs) hn hdb hs hpl, ⟨fun σ H F m δ O R Q h en t fn => he.sn.go σ H F m δ O _ _ h en t fun v H1 F1 m1 a O1 s1 h1 r1 t1 => by
    show rListOf X.K [v] H1 Q
    split at t1
    · obtain ⟨p, us, rfl, hp, rr⟩ := tup_rep h1 r1
      exact ⟨p, us, rfl, .inr (SqT.of hp), fun l n => (fn.mono s1).lst h1 rr t1 l n⟩
    · obtain ⟨xs, e0, t1⟩ := t1.ex
      obtain ⟨p, us, rfl, hp, rr⟩ := asL_rep h1 r1 e0
      exact ⟨p, us, rfl, .inl (SqL.of hp), fun l n => (fn.mono s1).lst h1 rr t1 l n⟩⟩⟩
/-- min of two numbers -/
def min2D : DCl := fun O ds R => match ds with
  | [.int i, .int j] => R (.int (if j < i then j else i)) O
  | _ => False
def rMin2 : List V → Hp → VK → Prop := fun xs H Q => ∃ i j, xs = [.int i, .int j] ∧ Q (.int (if j < i then j else i)) H
theorem cr_min2 (hc : X.calm = true) : CallR X (.builtin "min") rMin2 := call_min2 hc
theorem sndc_min2 : SndC K rMin2 min2D := ⟨fun H F m O vs ds R Q h r t fn => by
  unfold min2D at t
  split at t
  · cases r with
    | cons r0 rt =>
      cases rt with
      | cons r1 rt => cases rt; cases r0; cases r1; exact ⟨_, _, rfl, fn.here h (.int _) t⟩
  · exact t.elim⟩
/-- sum, min, max of a list of numbers -/
def sumD : DCl := fun O ds R => match ds with
  | [d] => oK (asL O d) fun xs => oK (intsD xs) fun ns => R (.int ns.sum) O
  | _ => False
def minD : DCl := fun O ds R => match ds with
  | [d] => oK (asL O d) fun xs => oK (intsD xs) fun ns => 0 < ns.length ∧ ∀ k, k ∈ ns → (∀ y, y ∈ ns → k ≤ y) → R (.int k) O
  | _ => False
def maxD : DCl := fun O ds R => match ds with
  | [d] => oK (asL O d) fun xs => oK (intsD xs) fun ns => 0 < ns.length ∧ ∀ k, k ∈ ns → (∀ y, y ∈ ns → y ≤ k) → R (.int k) O
  | _ => False
theorem one_ints (h : Hol K F H m O) {vs : List V} {d : D} {xs : List D} {ns : List Int} (r : RepL K F m vs [d]) (e0 : asL O d = some xs) (e1 : intsD xs = some ns) : ∃ a, vs = [V.ref a] ∧ SqL K H a (ns.map V.int) := by
  cases r with
  | cons r0 rt =>
    cases rt
    obtain ⟨p, us, rfl, hp, rr⟩ := asL_rep h r0 e0
    rw [intsD_eq e1] at rr
    rw [rr.ints] at hp
    exact ⟨p, rfl, SqL.of hp⟩
theorem sndc_sum : SndC K (rSum K) sumD := ⟨fun H F m O vs ds R Q h r t fn => by
  unfold sumD at t
  split at t
  · obtain ⟨xs, e0, t⟩ := t.ex
    obtain ⟨ns, e1, t⟩ := t.ex
    obtain ⟨a, rfl, q⟩ := one_ints h r e0 e1
    exact ⟨a, ns, rfl, q, fn.here h (.int _) t⟩
  · exact t.elim⟩
theorem sndc_min : SndC K (rMin K) minD := ⟨fun H F m O vs ds R Q h r t fn => by
  unfold minD at t
  split at t
  · obtain ⟨xs, e0, t⟩ := t.ex
    obtain ⟨ns, e1, t⟩ := t.ex
    obtain ⟨a, rfl, q⟩ := one_ints h r e0 e1
    exact ⟨a, ns, rfl, q, t.1, fun k hk hy => fn.here h (.int _) (t.2 k hk hy)⟩
  · exact t.elim⟩
theorem sndc_max : SndC K (rMax K) maxD := ⟨fun H F m O vs ds R Q h r t fn => by
  unfold maxD at t
  split at t
  · obtain ⟨xs, e0, t⟩ := t.ex
    obtain ⟨ns, e1, t⟩ := t.ex
    obtain ⟨a, rfl, q⟩ := one_ints h r e0 e1
    exact ⟨a, ns, rfl, q, t.1, fun k hk hy => fn.here h (.int _) (t.2 k hk hy)⟩
  · exact t.elim⟩
/-- isinstance(x, T), T one of int, bool, tuple, list -/
inductive Ty where
  | non | bl | int | str | tup | lst | dic
def Ty.name : Ty → String
  | .non => "NoneType" | .bl => "bool" | .int => "int" | .str => "str" | .tup => "tuple" | .lst => "list" | .dic => "dict"
def isTy : Ty → Ty → Bool
  | .bl, .bl => true | .bl, .int => true | .int, .int => true | .tup, .tup => true | .lst, .lst => true | _, _ => false
def tyD (O : Own) : D → Option Ty
  | .non => some .non | .bl _ => some .bl | .int _ => some .int | .str _ => some .str | .tup _ => some .tup | .lst _ => some .lst
  | .own h => match O[h]? with
    | some (some (.lst _)) => some .lst
    | some (some (.dic _)) => some .dic
    | _ => none
  | _ => none
theorem kit_bl (t : Ty) : kitB t.name "bool" = some (isTy t .bl) := by cases t <;> decide +kernel
theorem kit_int (t : Ty) : kitB t.name "int" = some (isTy t .int) := by cases t <;> decide +kernel
theorem kit_tup (t : Ty) : kitB t.name "tuple" = some (isTy t .tup) := by cases t <;> decide +kernel
theorem kit_lst (t : Ty) : kitB t.name "list" = some (isTy t .lst) := by cases t <;> decide +kernel
theorem tyD_rep (h : Hol K F H m O) {v : V} {d : D} {t : Ty} (r : Rep K F m v d) (e : tyD O d = some t) : TyX K H v (.type t.name) := by
  cases r with
  | non => cases e; exact .base .non
  | bl b => cases e; exact .base (.bl b)
  | int i => cases e; exact .base (.int i)
  | str s => cases e; exact .base (.str s)
  | tup q r => cases e; exact .base (.tup (h.ex _ _ q))
  | lst q r => cases e; exact .base (.lst (h.ex _ _ q))
  | @own n a q =>
    unfold tyD at e
    dsimp only at e
    split at e
    · rename_i q'
      cases e
      obtain ⟨_, ho, e1, e2⟩ := h.at_ q' q
      cases e2 with
      | lst r => exact .base (.lst e1)
    · rename_i q'
      cases e
      obtain ⟨_, ho, e1, e2⟩ := h.at_ q' q
      cases e2 with
      | dic r => exact .base (.dK e1)
    · cases e
  | _ => cases e
def dIsi (T : Ty) (ta : DE) : DE := fun δ O R => ta δ O fun a O1 => oK (tyD O1 a) fun t => R (.bl (isTy t T)) O1
theorem pd_isi {x y : Str} {p p2 pos : Pos} {e : Expr} {te : TE} {de : DE} (T : Ty) (n : String) (hk : ∀ t : Ty, kitB t.name n = some (isTy t T)) (hg : Gl X x) (hm : X.mg x = none) (hv : bootBuiltins x = some (.builtin "isinstance")) (he : PD X e te de)
    (hgy : Gl X y) (hmy : X.mg y = none) (hvy : bootBuiltins y = some (.type n)) (hn : x ≠ "__name__" := by decide) (hdb : (x == ("__debug__" : Str)) = false := by decide) (hny : y ≠ "__name__" := by decide) (hdby : (y == ("__debug__" : Str)) = false := by decide)
    (hs : starEach [e, .Name y p2] X.env = (false, eval e X.env) :: starEach [.Name y p2] X.env := by rfl) (hs2 : starEach [.Name y p2] X.env = (false, eval (.Name y p2) X.env) :: starEach [] X.env := by rfl) (hpl : (backTo pos (starEach [.Name y p2] X.env)).any (·.1) = false := by rfl) :
    PD X (.Call (.Name x p) [e, .Name y p2] [] pos) (tCB (rIsi X.K) (tCons te (tCons (tC (.ty n)) tNil))) (dIsi T de) :=
  ⟨pe_callB call_isi hg hm hv (pa_cons he.pe (pa_cons (pe_bltn hgy hmy hvy rfl hny hdby) pa_nil hs2) hs) hn hdb hs hpl, ⟨fun σ H F m δ O R Q h en t fn => he.sn.go σ H F m δ O _ _ h en t fun v H1 F1 m1 a O1 s1 h1 r1 t1 => by
    obtain ⟨ty, e0, t1⟩ := t1.ex
    exact ⟨v, .ty n, .type ty.name, .type n, isTy ty T, rfl, .ty n, tyD_rep h1 r1 e0, kit_ty (hk ty), (fn.mono s1).here h1 (.bl _) t1⟩⟩⟩
end
end DL

/-! DL, part e: targets, statements, loops, comprehensions. -/
namespace DL
open PySem L2

/-! ### targets -/
abbrev DTg := D → DSt → Own → (DSt → Own → Prop) → Prop
abbrev DTgs := List D → DSt → Own → (DSt → Own → Prop) → Prop
def FinG (K : PySem.W.Frag) (F H : Hp) (m : List Addr) (R : DSt → Own → Prop) (Q : L2.St → Hp → Prop) : Prop := ∀ σ' H' F' m' δ' O', Stp F H m F' H' m' → Hol K F' H' m' O' → EnvR K F' m' σ' δ' → R δ' O' → Q σ' H'
theorem FinG.mono {K : PySem.W.Frag} {F H F' H' : Hp} {m m' : List Addr} {R : DSt → Own → Prop} {Q : L2.St → Hp → Prop} (f : FinG K F H m R Q) (s : Stp F H m F' H' m') : FinG K F' H' m' R Q := fun a b c d e g s1 => f a b c d e g (s.trans s1)
structure SndG (K : PySem.W.Frag) (g : TG) (dg : DTg) : Prop where
  go : ∀ (v : V) (d : D) (σ : L2.St) (H F : Hp) (m : List Addr) (δ : DSt) (O : Own) (R : DSt → Own → Prop) (Q : L2.St → Hp → Prop), Hol K F H m O → EnvR K F m σ δ → Rep K F m v d → dg d δ O R → FinG K F H m R Q → g v σ H Q
structure SndGs (K : PySem.W.Frag) (g : TGs) (dg : DTgs) : Prop where
  go : ∀ (vs : List V) (ds : List D) (σ : L2.St) (H F : Hp) (m : List Addr) (δ : DSt) (O : Own) (R : DSt → Own → Prop) (Q : L2.St → Hp → Prop), Hol K F H m O → EnvR K F m σ δ → RepL K F m vs ds → dg ds δ O R → FinG K F H m R Q → g vs σ H Q
structure PDG (X : Cx) (e : Expr) (g : TG) (dg : DTg) : Prop where
  pe : PG X e g
  sn : SndG X.K g dg
structure PDGs (X : Cx) (e : List Expr) (g : TGs) (dg : DTgs) : Prop where
  pe : PGs X e g
  sn : SndGs X.K g dg
/-- the target stores in the slots vs alone -/
structure Own1 (vs : List Nat) (g : TG) : Prop where
  go : ∀ (v : V) (σ : L2.St) (H : Hp) (Q : L2.St → Hp → Prop), g v σ H Q → g v σ H fun σ' H' => wipe σ' vs = wipe σ vs ∧ Q σ' H'
structure Own2 (vs : List Nat) (g : TGs) : Prop where
  go : ∀ (v : List V) (σ : L2.St) (H : Hp) (Q : L2.St → Hp → Prop), g v σ H Q → g v σ H fun σ' H' => wipe σ' vs = wipe σ vs ∧ Q σ' H'
def dgName (i : Nat) : DTg := fun d δ O R => R (δ.set i (some d)) O
def dgNil : DTgs := fun ds δ O R => match ds with
  | [] => R δ O
  | _ => False
def dgCons (t : DTg) (u : DTgs) : DTgs := fun ds δ O R => match ds with
  | d :: r => t d δ O fun δ1 O1 => u r δ1 O1 R
  | [] => False
/-- just n items -/
def justL : Nat → List D → Prop → Prop
  | 0, [], p => p
  | n + 1, _ :: ds, p => justL n ds p
  | _, _, _ => False
theorem justL_ok : ∀ {n : Nat} {ds : List D} {p : Prop}, justL n ds p → ds.length = n ∧ p
  | 0, [], _, h => ⟨rfl, h⟩
  | n + 1, [], _, h => h.elim
  | n + 1, _ :: ds, _, h => by
    obtain ⟨a, b⟩ := justL_ok (n := n) (ds := ds) h
    exact ⟨by rw [List.length_cons, a], b⟩
  | 0, _ :: _, _, h => h.elim
def dgTup (n : Nat) (t : DTgs) : DTg := fun d δ O R => match d with
  | .tup ds => justL n ds (t ds δ O R)
  | _ => False
section
variable {K : PySem.W.Frag} {X : Cx} {pos : Pos}
theorem sndg_name (i : Nat) : SndG K (gName i) (dgName i) := ⟨fun v d σ H F m δ O R Q h e r t f => f _ H F m _ O .refl h (e.set i r) t⟩
theorem pdg_name {i : Nat} {x : Str} (hN : X.N.Nodup) (hi : X.N[i]? = some x) (hx : Loc X.env.scope x) (hf : X.fn x = true ∨ X.env.scope.names.lookup x = some .local := by first | exact .inl rfl | exact .inr rfl | assumption) : PDG X (.Name x pos) (gName i) (dgName i) :=
  ⟨pg_name hN hi hx hf, sndg_name i⟩
theorem pdgs_nil : PDGs X [] gNil dgNil := ⟨pgs_nil, ⟨fun vs ds σ H F m δ O R Q h e r t f => by
  cases r with
  | nil => exact ⟨rfl, f _ H F m _ O .refl h e t⟩
  | cons _ _ => exact t.elim⟩⟩
theorem pdgs_cons {e : Expr} {es : List Expr} {g : TG} {dg : DTg} {gs : TGs} {dgs : DTgs} (h1 : PDG X e g dg) (h2 : PDGs X es gs dgs) (hs : (assignEach (e :: es) X.env).map (·.2) = assign e X.env :: (assignEach es X.env).map (·.2) := by rfl) : PDGs X (e :: es) (gCons g gs) (dgCons dg dgs) :=
  ⟨pgs_cons h1.pe h2.pe hs, ⟨fun vs ds σ H F m δ O R Q h e r t f => by
    cases r with
    | nil => exact t.elim
    | cons r0 rt => exact ⟨_, _, rfl, h1.sn.go _ _ σ H F m δ O _ _ h e r0 t fun σ1 H1 F1 m1 δ1 O1 s1 h1' e1 t1 => h2.sn.go _ _ σ1 H1 F1 m1 δ1 O1 R Q h1' e1 (rt.mono s1) t1 (f.mono s1)⟩⟩⟩
theorem pdg_tup {es : List Expr} {k : Nat} {g : TGs} {dg : DTgs} {n : Nat} (hc : X.calm = true) (h : PDGs X es g dg) (hn : (assignEach es X.env).length = n := by rfl) (hst : (assignEach es X.env).findIdx? (·.1) = none := by rfl) : PDG X (.Tuple es k pos) (gTup X.K n g) (dgTup n dg) :=
  ⟨pg_tup hc h.pe hn hst, ⟨fun v d σ H F m δ O R Q hh e r t f => by
    cases r with
    | tup q r => exact ⟨_, _, rfl, SqT.of (hh.ex _ _ q), by rw [r.length]; exact (justL_ok t).1, h.sn.go _ _ σ H F m δ O R Q hh e r (justL_ok t).2 f⟩
    | _ => exact t.elim⟩⟩
theorem wipe_set {i : Nat} {o : Option V} : ∀ {vs : List Nat} {σ : L2.St}, i ∈ vs → wipe (σ.set i o) vs = wipe σ vs
  | [], _, h => by cases h
  | v :: vs, σ, h => by
    show (wipe (σ.set i o) vs).set v none = (wipe σ vs).set v none
    by_cases q : i ∈ vs
    · rw [wipe_set q]
    · have e : i = v := by
        rcases List.mem_cons.mp h with z | z
        · exact z
        · exact absurd z q
      subst e
      have aux : ∀ (us : List Nat) (τ : L2.St), i ∉ us → wipe (τ.set i o) us = (wipe τ us).set i o := by
        intro us
        induction us with
        | nil => intro τ _; rfl
        | cons u us ih =>
          intro τ hn
          have n1 : i ≠ u := fun z => hn (by rw [z]; exact List.mem_cons_self)
          show (wipe (τ.set i o) us).set u none = ((wipe τ us).set u none).set i o
          rw [ih τ (fun z => hn (List.mem_cons_of_mem _ z)), List.set_comm _ _ n1]
      rw [aux vs σ q, List.set_set]
theorem own_name {i : Nat} {vs : List Nat} (h : i ∈ vs) : Own1 vs (gName i) := ⟨fun v σ H Q q => ⟨wipe_set h, q⟩⟩
theorem own_nil {vs : List Nat} : Own2 vs gNil := ⟨fun v σ H Q q => ⟨q.1, rfl, q.2⟩⟩
theorem own_consN {i : Nat} {vs : List Nat} {u : TGs} (h : i ∈ vs) (h2 : Own2 vs u) : Own2 vs (gCons (gName i) u) := ⟨fun v σ H Q q => by
  obtain ⟨x, r, e, q⟩ := q
  refine ⟨x, r, e, ?_⟩
  have q2 := h2.go r (σ.set i (some x)) H Q q
  rw [wipe_set h] at q2
  exact q2⟩
theorem own_tup {n : Nat} {vs : List Nat} {t : TGs} (h : Own2 vs t) : Own1 vs (gTup K n t) := ⟨fun v σ H Q q => by
  obtain ⟨a, xs, e, h1, h2, q⟩ := q
  exact ⟨a, xs, e, h1, h2, h.go xs σ H Q q⟩⟩
/-- o[i] = d -/
def setD (O : Own) (a b d : D) (R : Own → Prop) : Prop := match a, b with
  | .own h, .int i => match O[h]? with
    | some (some (.lst xs)) => oK (ixN xs.length i) fun j => R (O.set h (some (.lst (xs.set j d))))
    | _ => False
  | _, _ => False
def dgSub (to ti : DE) : DTg := fun d δ O R => to δ O fun a O1 => ti δ O1 fun b O2 => setD O2 a b d fun O3 => R δ O3
theorem pdg_sub {o i : Expr} {to ti : TE} {dO di : DE} (ho : PD X o to dO) (hi : PD X i ti di)
    (ha : ∀ v, assign (.Subscript o i pos) X.env v = (do
      let ov ← holding [v] (eval o X.env)
      let iv ← holding [v, ov] (eval i X.env)
      standAt pos
      holding [v, ov, iv] (setItem ov iv v)
      release [v, ov, iv] []) := by intro _; rfl) : PDG X (.Subscript o i pos) (gSub to ti rSetL) (dgSub dO di) :=
  ⟨pg_sub ho.pe hi.pe set_list ha, ⟨fun v d σ H F m δ O R Q h e r t f => ho.sn.go σ H F m δ O _ _ h e t fun x H1 F1 m1 a O1 s1 h1 r1 t1 =>
    hi.sn.go σ H1 F1 m1 δ O1 _ _ h1 (e.mono s1) t1 fun y H2 F2 m2 b O2 s2 h2 r2 t2 => by
      unfold setD at t2
      split at t2
      · rename_i k i
        split at t2
        · rename_i xs q
          obtain ⟨j, e1, t2⟩ := t2.ex
          cases r2
          cases (r1.mono s2) with
          | @own _ p q1 =>
            obtain ⟨hf, ho, e2, e3⟩ := h2.at_ q q1
            cases e3 with
            | @lst us _ rr =>
              obtain ⟨s3, h3⟩ := h2.upd q q1 (.lst (rr.set (r.mono (s1.trans s2)) j))
              exact ⟨p, us, i, j, rfl, rfl, e2, by rw [rr.length]; exact e1, f _ _ _ _ _ _ (s1.trans (s2.trans s3)) h3 (e.mono (s1.trans (s2.trans s3))) t2⟩
        · exact t2.elim
      · exact t2.elim⟩⟩
end

/-! ### statements -/
section
variable {K : PySem.W.Frag} {X : Cx} {pos : Pos} {e : Expr} {te : TE} {de : DE} {st : Stmt} {rest : List Stmt} {t u : TS} {dt du : DS}
def dNext : DS := fun E δ O => E.nx δ O
def dSeq (t u : DS) : DS := fun E δ O => t { E with nx := u E } δ O
theorem snds_next : SndS K tNext dNext := ⟨fun σ H F m δ O E D h e t f => f.nx σ H F m δ O .refl h e t⟩
theorem pdss_nil : PDSs X [] tNext dNext := ⟨pss_nil, snds_next⟩
theorem snds_seq (h1 : SndS K t dt) (h2 : SndS K u du) : SndS K (tSeq t u) (dSeq dt du) := ⟨fun σ H F m δ O E D h e q f => h1.go σ H F m δ O _ _ h e q
  ⟨fun σ1 H1 F1 m1 δ1 O1 s1 h1' e1 q1 => h2.go σ1 H1 F1 m1 δ1 O1 E D h1' e1 q1 (f.mono s1), f.rt, f.bk, f.ct⟩⟩
theorem pdss_cons (h1 : PDS X st t dt) (h2 : PDSs X rest u du) : PDSs X (st :: rest) (tSeq t u) (dSeq dt du) := ⟨pss_cons h1.pe h2.pe, snds_seq h1.sn h2.sn⟩
theorem pdss_one (h1 : PDS X st t dt) : PDSs X [st] t dt := ⟨pss_one h1.pe, h1.sn⟩
theorem pds_pass : PDS X (.Pass pos) tNext dNext := ⟨ps_pass, snds_next⟩
def dNever : DS := fun _ _ _ => False
theorem pds_never : PDS X st tNever dNever := ⟨ps_never, ⟨fun _ _ _ _ _ _ _ _ _ _ t _ => t⟩⟩
def dDrop (t : DE) : DS := fun E δ O => t δ O fun _ O' => E.nx δ O'
theorem pds_expr (he : PD X e te de) (hs : swapsWith e none pos.line X.env = pure false := by rfl) : PDS X (.Expr e pos) (tDrop te) (dDrop de) := ⟨ps_expr he.pe hs, ⟨fun σ H F m δ O E D h en t f => he.sn.go σ H F m δ O _ _ h en t fun v H1 F1 m1 d O1 s1 h1 r1 t1 =>
  f.nx σ H1 F1 m1 δ O1 s1 h1 (en.mono s1) t1⟩⟩
def dRet (t : DE) : DS := fun E δ O => t δ O E.rt
theorem pds_ret (he : PD X e te de) : PDS X (.Return (some e) pos) (tRet te) (dRet de) := ⟨ps_ret he.pe, ⟨fun σ H F m δ O E D h en t f => he.sn.go σ H F m δ O _ _ h en t f.rt⟩⟩
def dIfS (c : DT) (t u : DS) : DS := fun E δ O => c δ O fun k O1 => if k = true then t E δ O1 else u E δ O1
theorem pds_if {c : Expr} {a b : List Stmt} {tc : TT} {dc : DT} (hc : PDT X c tc dc) (ha : PDSs X a t dt) (hb : PDSs X b u du) : PDS X (.If c a b pos) (tIfS tc t u) (dIfS dc dt du) := ⟨ps_if hc.pe ha.pe hb.pe, ⟨fun σ H F m δ O E D h en q f =>
  hc.sn.go σ H F m δ O _ _ h en q fun k H1 F1 m1 O1 s1 h1 t1 => by
    cases k with
    | true => exact ha.sn.go σ H1 F1 m1 δ O1 E D h1 (en.mono s1) t1 (f.mono s1)
    | false => exact hb.sn.go σ H1 F1 m1 δ O1 E D h1 (en.mono s1) t1 (f.mono s1)⟩⟩
def dAsg (t : DE) (g : DTg) : DS := fun E δ O => t δ O fun d O1 => g d δ O1 E.nx
theorem snds_asg {g : TG} {dg : DTg} (he : Snd K te de) (hg : SndG K g dg) : SndS K (tAsg te g) (dAsg de dg) := ⟨fun σ H F m δ O E D h en t f => he.go σ H F m δ O _ _ h en t fun v H1 F1 m1 d O1 s1 h1 r1 t1 =>
  hg.go v d σ H1 F1 m1 δ O1 _ _ h1 (en.mono s1) r1 t1 fun σ2 H2 F2 m2 δ2 O2 s2 h2 e2 t2 => f.nx σ2 H2 F2 m2 δ2 O2 (s1.trans s2) h2 e2 t2⟩
theorem pds_asg {tg : Expr} {g : TG} {dg : DTg} (he : PD X e te de) (hg : PDG X tg g dg) (hs : swapsWithSole [tg] e pos.line X.env = pure false := by rfl) (hw : swappedStores [tg] e X.env = pure none := by rfl)
    (h1 : (assignEach [tg] X.env).map (·.2) = [assign tg X.env] := by rfl) : PDS X (.Assign [tg] e pos) (tAsg te g) (dAsg de dg) := ⟨ps_asg he.pe hg.pe hs hw h1, snds_asg he.sn hg.sn⟩
theorem pds_set {i : Nat} {x : Str} {pos' : Pos} (hN : X.N.Nodup) (hi : X.N[i]? = some x) (hx : Loc X.env.scope x) (he : PD X e te de) (hs : swapsWith e (some (.Name x pos')) pos.line X.env = pure false := by rfl) (hf : X.fn x = true ∨ X.env.scope.names.lookup x = some .local := by first | exact .inl rfl | exact .inr rfl | assumption) :
    PDS X (.Assign [.Name x pos'] e pos) (tAsg te (gName i)) (dAsg de (dgName i)) := ⟨ps_set hN hi hx he.pe hs hf, snds_asg he.sn (sndg_name i)⟩
/-- x.f = e, x an instance that may change -/
def dsFld (C : Addr) (ta tv : DE) (f : Str) : DS := fun E δ O => tv δ O fun d O1 => ta δ O1 fun a O2 => match a with
  | .own h => match O2[h]? with
    | some (some (.ins C' gs)) => C' = C ∧ gs.length < 1000 ∧ E.nx δ (O2.set h (some (.ins C' (putG f d gs))))
    | _ => False
  | _ => False
theorem pds_fld {o value : Expr} {to tv : TE} {dO dv : DE} {f : Str} {C : Addr} {pos' : Pos} (ho : PD X o to dO) (hv : PD X value tv dv) (cl : Cls X.K C) (na : NoAttr X.K C f) (hs : swapsWith value (some (.Attribute o f pos')) pos.line X.env = pure false := by rfl) :
    PDS X (.Assign [.Attribute o f pos'] value pos) (sFld X.K to tv f) (dsFld C dO dv f) := ⟨ps_fld ho.pe hv.pe hs, ⟨fun σ H F m δ O E D h en t fn => hv.sn.go σ H F m δ O _ _ h en t fun v H1 F1 m1 d O1 s1 h1 r1 t1 =>
  ho.sn.go σ H1 F1 m1 δ O1 _ _ h1 (en.mono s1) t1 fun y H2 F2 m2 a O2 s2 h2 r2 t2 => by
    split at t2
    · rename_i k
      split at t2
      · rename_i C' gs q
        obtain ⟨ec, el, t2⟩ := t2
        subst ec
        cases r2 with
        | @own _ p q1 =>
          obtain ⟨hf, ho', e2, e3⟩ := h2.at_ q q1
          cases e3 with
          | @ins _ dx fs _ rr =>
            obtain ⟨s3, h3⟩ := h2.upd q q1 (.ins (dx := dx) (rr.put (r1.mono s2)))
            exact ⟨p, C', dx, fs, rfl, e2, cl, na, by rw [rr.length]; exact el, fn.nx _ _ _ _ _ _ (s1.trans (s2.trans s3)) h3 (en.mono (s1.trans (s2.trans s3))) t2⟩
      · exact t2.elim
    · exact t2.elim⟩⟩
/-! ### while -/
def dWhile (c : DT) (b : DS) : DS := fun E δ O => ∃ W : Nat → DSt → Own → Prop, (∃ n, W n δ O) ∧ ∀ n δ O, W n δ O →
  c δ O fun k O1 => if k = true then b { E with nx := fun δ' O' => ∃ n', n' < n ∧ W n' δ' O', ct := fun δ' O' => ∃ n', n' < n ∧ W n' δ' O', bk := E.nx } δ O1 else E.nx δ O1
theorem pds_while {c : Expr} {body : List Stmt} {tc : TT} {dc : DT} (hp : PassesOwn (model X.prog X.w) X.A X.env X.xe) (hc : PDT X c tc dc) (hb : PDSs X body t dt) : PDS X (.While c body [] pos) (tWhile tc t) (dWhile dc dt) := ⟨ps_while hp hc.pe hb.pe, ⟨fun σ H F m δ O E D h en q f => by
  obtain ⟨W, ⟨n0, w0⟩, turn⟩ := q
  refine ⟨fun n σ' H' => ∃ F' m' δ' O', Stp F H m F' H' m' ∧ Hol X.K F' H' m' O' ∧ EnvR X.K F' m' σ' δ' ∧ W n δ' O', ⟨n0, F, m, δ, O, .refl, h, en, w0⟩, ?_⟩
  rintro n σ1 H1 ⟨F1, m1, δ1, O1, s1, h1, e1, w1⟩
  refine hc.sn.go σ1 H1 F1 m1 δ1 O1 _ _ h1 e1 (turn n δ1 O1 w1) fun k H2 F2 m2 O2 s2 h2 t2 => ?_
  cases k with
  | true =>
    refine ⟨fun σ' H' => ∃ n', n' < n ∧ ∃ F' m' δ' O', Stp F H m F' H' m' ∧ Hol X.K F' H' m' O' ∧ EnvR X.K F' m' σ' δ' ∧ W n' δ' O', fun _ _ z => z, ?_⟩
    refine hb.sn.go σ1 H2 F2 m2 δ1 O2 _ _ h2 (e1.mono s2) t2 ⟨fun σ' H' F' m' δ' O' s' h' e' ⟨n', l, w'⟩ => ⟨n', l, F', m', δ', O', s1.trans (s2.trans s'), h', e', w'⟩, f.rt.mono (s1.trans s2), fun σ' H' F' m' δ' O' s' h' e' q' => f.nx σ' H' F' m' δ' O' (s1.trans (s2.trans s')) h' e' q', fun σ' H' F' m' δ' O' s' h' e' ⟨n', l, w'⟩ => ⟨n', l, F', m', δ', O', s1.trans (s2.trans s'), h', e', w'⟩⟩
  | false => exact f.nx σ1 H2 F2 m2 δ1 O2 (s1.trans s2) h2 (e1.mono s2) t2⟩⟩

/-! ### what is walked -/
structure ItD (K : PySem.W.Frag) (F : Hp) (m : List Addr) (J : It) (ds : List D) (chk : Own → Prop) : Prop where
  go : ∀ (i : Nat) (H F' : Hp) (m' : List Addr) (O : Own), Sub F m F' m' → Hol K F' H m' O → chk O → i < ds.length → J.go i H
  stop : ∀ (i : Nat) (H F' : Hp) (m' : List Addr) (O : Own), Sub F m F' m' → Hol K F' H m' O → chk O → i = ds.length → J.stop i H
  yld : ∀ (i : Nat) (H F' : Hp) (m' : List Addr) (O : Own) (x : V) (H' : Hp) (d : D), Sub F m F' m' → Hol K F' H m' O → chk O → ds[i]? = some d → J.yld i H x H' → ∃ F'', Stp F' H m' F'' H' m' ∧ Hol K F'' H' m' O ∧ Rep K F'' m' x d
abbrev DI := DSt → Own → (List D → (Own → Prop) → Own → Prop) → Prop
structure PDI (X : Cx) (tg iter : Expr) (wi : TI) (di : DI) : Prop where
  pe : PI X tg iter wi
  sn : ∀ (σ : L2.St) (H F : Hp) (m : List Addr) (δ : DSt) (O : Own) (R : List D → (Own → Prop) → Own → Prop) (Q : It → Hp → Prop), Hol X.K F H m O → EnvR X.K F m σ δ → di δ O R →
    (∀ J H' F' m' ds chk O', Stp F H m F' H' m' → Hol X.K F' H' m' O' → ItD X.K F' m' J ds chk → R ds chk O' → Q J H') → wi σ H Q
def forL (g : DTg) (b : DS) (chk : Own → Prop) (E : DEnds) : List D → DSt → Own → Prop
  | [], δ, O => chk O ∧ E.nx δ O
  | d :: ds, δ, O => chk O ∧ g d δ O fun δ1 O1 => b { E with nx := forL g b chk E ds, ct := forL g b chk E ds, bk := E.nx } δ1 O1
def dFor (di : DI) (g : DTg) (b : DS) : DS := fun E δ O => di δ O fun ds chk O1 => forL g b chk E ds δ O1
theorem drop_get {ds : List D} {i : Nat} {d : D} {r : List D} (e : ds.drop i = d :: r) : i < ds.length ∧ ds[i]? = some d ∧ ds.drop (i + 1) = r := by
  have hl : i < ds.length := by
    by_cases q : i < ds.length
    · exact q
    · rw [List.drop_eq_nil_of_le (Nat.le_of_not_lt q)] at e; cases e
  rw [List.drop_eq_getElem_cons hl] at e
  injection e with e1 e2
  exact ⟨hl, by rw [List.getElem?_eq_getElem hl, e1], e2⟩
theorem pds_for {tg iter : Expr} {body : List Stmt} {wi : TI} {di : DI} {g : TG} {dg : DTg} (hp : PassesOwn (model X.prog X.w) X.A X.env X.xe) (hc : X.calm = true) (hi : PDI X tg iter wi di) (hg : PDG X tg g dg) (hb : PDSs X body t dt)
    (hs : ∀ x, foldedSetIterable iter X.env x = pure x := by intro _; rfl) : PDS X (.For tg iter body [] pos) (tFor wi g t) (dFor di dg dt) := ⟨ps_for hp hc hi.pe hg.pe hb.pe hs, ⟨fun σ H F m δ O E D h en q f => by
  refine hi.sn σ H F m δ O _ _ h en q fun J H0 F0 m0 ds chk O0 s0 h0 jd q0 => ?_
  refine ⟨fun i n σ' H' => (n = ds.length - i ∧ i ≤ ds.length) ∧ ∃ F' m' δ' O', Stp F0 H0 m0 F' H' m' ∧ Hol X.K F' H' m' O' ∧ EnvR X.K F' m' σ' δ' ∧ forL dg dt chk E (ds.drop i) δ' O', ⟨ds.length, ⟨rfl, Nat.zero_le _⟩, F0, m0, δ, O0, .refl, h0, en.mono s0, q0⟩, ?_⟩
  rintro i n σ1 H1 ⟨⟨rfl, hle⟩, F1, m1, δ1, O1, s1, h1, e1, w1⟩
  cases dr : ds.drop i with
  | nil =>
    rw [dr] at w1
    exact .inl ⟨jd.stop i H1 F1 m1 O1 s1.sub h1 w1.1 (Nat.le_antisymm hle (List.drop_eq_nil_iff.mp dr)), f.nx σ1 H1 F1 m1 δ1 O1 (s0.trans s1) h1 e1 w1.2⟩
  | cons d r =>
    rw [dr] at w1
    obtain ⟨hl, hd, hr⟩ := drop_get dr
    refine .inr ⟨jd.go i H1 F1 m1 O1 s1.sub h1 w1.1 hl, fun σ' H' => ∃ F' m' δ' O', Stp F0 H0 m0 F' H' m' ∧ Hol X.K F' H' m' O' ∧ EnvR X.K F' m' σ' δ' ∧ forL dg dt chk E r δ' O', fun σ' H' ⟨F', m', δ', O', a, b, c, w⟩ => ⟨ds.length - (i + 1), by omega, ⟨rfl, hl⟩, F', m', δ', O', a, b, c, by rw [hr]; exact w⟩, fun x H2 y => ?_⟩
    obtain ⟨F2, s2, h2, r2⟩ := jd.yld i H1 F1 m1 O1 x H2 d s1.sub h1 w1.1 hd y
    refine hg.sn.go x d σ1 H2 F2 m1 δ1 O1 _ _ h2 (e1.mono s2) r2 w1.2 fun σ3 H3 F3 m3 δ3 O3 s3 h3 e3 t3 => ?_
    have up := s1.trans (s2.trans s3)
    exact hb.sn.go σ3 H3 F3 m3 δ3 O3 _ _ h3 e3 t3 ⟨fun σ' H' F' m' δ' O' s' h' e' q' => ⟨F', m', δ', O', up.trans s', h', e', q'⟩, f.rt.mono (s0.trans up), fun σ' H' F' m' δ' O' s' h' e' q' => f.nx σ' H' F' m' δ' O' (s0.trans (up.trans s')) h' e' q', fun σ' H' F' m' δ' O' s' h' e' q' => ⟨F', m', δ', O', up.trans s', h', e', q'⟩⟩⟩⟩
/-- a list; a tuple; range -/
def diL (ta : DE) : DI := fun δ O R => ta δ O fun a O1 => oK (asL O1 a) fun ds => R ds (fun O' => asL O' a = some ds) O1
theorem pdi_list {tg l : Expr} {tl : TE} {dl : DE} (h : PD X l tl dl) : PDI X tg l (iList X.K tl) (diL dl) := ⟨pi_list h.pe, fun σ H F m δ O R Q hh en q f => h.sn.go σ H F m δ O _ _ hh en q fun v H1 F1 m1 a O1 s1 h1 r1 t1 => by
  obtain ⟨ds, e0, t1⟩ := t1.ex
  obtain ⟨p, xs, rfl, hp, rr⟩ := asL_rep h1 r1 e0
  have now : ∀ {H' F' : Hp} {m' : List Addr} {O' : Own}, Sub F1 m1 F' m' → Hol X.K F' H' m' O' → asL O' a = some ds → ∃ ys, H' p = some (.lst ys) ∧ RepL X.K F' m' ys ds := fun s' h' e' => by
    obtain ⟨p', ys, ep, hp', rr'⟩ := asL_rep h' (Rep.mono0 s' r1) e'
    cases ep
    exact ⟨ys, hp', rr'⟩
  refine ⟨p, rfl, ⟨xs, SqL.of hp⟩, f (Itl X.K p) H1 F1 m1 ds _ O1 s1 h1 ⟨fun i H' F' m' O' s' h' e' hi => ?_, fun i H' F' m' O' s' h' e' hi => ?_, fun i H' F' m' O' x H2 d s' h' e' hd y => ?_⟩ t1⟩
  · obtain ⟨ys, hp', rr'⟩ := now s' h' e'
    have hl := rr'.length
    exact ⟨ys, ys[i], SqL.of hp', List.getElem?_eq_getElem (by omega)⟩
  · obtain ⟨ys, hp', rr'⟩ := now s' h' e'
    have hl := rr'.length
    exact ⟨ys, SqL.of hp', by omega⟩
  · obtain ⟨ys, hp', rr'⟩ := now s' h' e'
    obtain ⟨e1, y⟩ := y
    subst e1
    obtain ⟨v, e2, r2⟩ := rr'.get hd
    have e3 := y ys (SqL.of hp')
    rw [e2] at e3
    cases e3
    exact ⟨F', .refl, h', r2⟩⟩
def diT (ta : DE) : DI := fun δ O R => ta δ O fun a O1 => match a with
  | .tup ds => R ds (fun _ => True) O1
  | _ => False
theorem pdi_tup {tg l : Expr} {tl : TE} {dl : DE} (h : PD X l tl dl) : PDI X tg l (iTup X.K tl) (diT dl) := ⟨pi_tup h.pe, fun σ H F m δ O R Q hh en q f => h.sn.go σ H F m δ O _ _ hh en q fun v H1 F1 m1 a O1 s1 h1 r1 t1 => by
  cases r1 with
  | @tup p xs ds q r =>
    refine ⟨p, rfl, ⟨xs, SqT.of (h1.ex _ _ q)⟩, f (Itt X.K p) H1 F1 m1 ds _ O1 s1 h1 ⟨fun i H' F' m' O' s' h' _ hi => ?_, fun i H' F' m' O' s' h' _ hi => ?_, fun i H' F' m' O' x H2 d s' h' _ hd y => ?_⟩ t1⟩
    · have hl := r.length
      exact ⟨xs, xs[i], SqT.of (h'.ex _ _ (s'.ex _ _ q)), List.getElem?_eq_getElem (by omega)⟩
    · have hl := r.length
      exact ⟨xs, SqT.of (h'.ex _ _ (s'.ex _ _ q)), by omega⟩
    · obtain ⟨e1, y⟩ := y
      subst e1
      obtain ⟨v, e2, r2⟩ := r.get hd
      have e3 := y xs (SqT.of (h'.ex _ _ (s'.ex _ _ q)))
      rw [e2] at e3
      cases e3
      exact ⟨F', .refl, h', Rep.mono0 s' r2⟩
  | _ => exact t1.elim⟩
/-- lo, lo + 1, .. n of them -/
def rngD (lo : Int) (n : Nat) : List D := (List.range n).map fun i => D.int (lo + (i : Nat))
theorem rngD_get {lo : Int} {n i : Nat} {d : D} (h : (rngD lo n)[i]? = some d) : d = .int (lo + (i : Nat)) := by
  unfold rngD at h
  rw [List.getElem?_map] at h
  cases q : (List.range n)[i]? with
  | none => rw [q] at h; cases h
  | some j =>
    rw [q] at h
    have e := List.getElem?_range (n := n) (i := i)
    have hj : j = i := by
      obtain ⟨hi, e2⟩ := List.getElem?_eq_some_iff.mp q
      rw [List.getElem_range] at e2
      exact e2.symm
    subst hj
    exact (Option.some.inj h).symm
theorem rngD_length (lo : Int) (n : Nat) : (rngD lo n).length = n := by simp [rngD]
theorem itd_rng {F : Hp} {m : List Addr} (lo : Int) (n : Nat) : ItD K F m (Itr lo n) (rngD lo n) (fun _ => True) where
  go := fun i H F' m' O _ _ _ hi => by rw [rngD_length] at hi; exact hi
  stop := fun i H F' m' O _ _ _ hi => by rw [rngD_length] at hi; exact Nat.le_of_eq hi.symm
  yld := fun i H F' m' O x H' d _ h _ hd y => by
    obtain ⟨e1, e2⟩ := y
    subst e1 e2
    rw [rngD_get hd]
    exact ⟨F', .refl, h, .int _⟩
/-- 0, 1, .. n of them -/
def rngN (n : Nat) : List D := (List.range n).map fun i => D.int ((i : Nat) : Int)
theorem rngN_eq (n : Nat) : rngN n = rngD 0 n := by
  unfold rngN rngD
  exact List.map_congr_left fun i _ => by rw [Int.zero_add]
def diR1 (ta : DE) : DI := fun δ O R => ta δ O fun a O1 => match a with
  | .int j => (-1000000000 ≤ j ∧ j ≤ 1000000000) ∧ R (rngN j.toNat) (fun _ => True) O1
  | _ => False
theorem pdi_rng1 {tg a : Expr} {ta : TE} {da : DE} {p pos : Pos} (hg : Gl X "range") (hm : X.mg "range" = none) (ha : PD X a ta da) (hs : starEach [a] X.env = [(false, eval a X.env)] := by rfl) : PDI X tg (.Call (.Name "range" p) [a] [] pos) (iRng1 (tCons ta tNil)) (diR1 da) :=
  ⟨pi_range1 hg hm (pa_cons ha.pe pa_nil hs) hs, fun σ H F m δ O R Q hh en q f => ha.sn.go σ H F m δ O _ _ hh en q fun v H1 F1 m1 a O1 s1 h1 r1 t1 => by
    cases r1 with
    | int j => exact ⟨j, rfl, by omega, by omega, f _ H1 F1 m1 _ _ O1 s1 h1 (by rw [rngN_eq]; exact itd_rng 0 j.toNat) t1.2⟩
    | _ => exact t1.elim⟩
def diR2 (ta tb : DE) : DI := fun δ O R => ta δ O fun a O1 => tb δ O1 fun b O2 => match a, b with
  | .int i, .int j => (-1000000000 ≤ i ∧ i ≤ 1000000000 ∧ -1000000000 ≤ j ∧ j ≤ 1000000000) ∧ R (rngD i (j - i).toNat) (fun _ => True) O2
  | _, _ => False
theorem pdi_rng2 {tg a b : Expr} {ta tb : TE} {da db : DE} {p pos : Pos} (hg : Gl X "range") (hm : X.mg "range" = none) (ha : PD X a ta da) (hb : PD X b tb db) (hs : starEach [a, b] X.env = [(false, eval a X.env), (false, eval b X.env)] := by rfl)
    (hs2 : starEach [b] X.env = [(false, eval b X.env)] := by rfl) (hs3 : starEach [a, b] X.env = (false, eval a X.env) :: starEach [b] X.env := by rfl) : PDI X tg (.Call (.Name "range" p) [a, b] [] pos) (iRng2 (tCons ta (tCons tb tNil))) (diR2 da db) :=
  ⟨pi_range2 hg hm (pa_cons ha.pe (pa_cons hb.pe pa_nil hs2) hs3) hs hs2, fun σ H F m δ O R Q hh en q f => ha.sn.go σ H F m δ O _ _ hh en q fun v H1 F1 m1 a O1 s1 h1 r1 t1 =>
    hb.sn.go σ H1 F1 m1 δ O1 _ _ h1 (en.mono s1) t1 fun w H2 F2 m2 b O2 s2 h2 r2 t2 => by
      cases r1 with
      | int i =>
        cases r2 with
        | int j => exact ⟨i, j, rfl, by omega, f _ H2 F2 m2 _ _ O2 (s1.trans s2) h2 (itd_rng i (j - i).toNat) t2.2⟩
        | _ => exact t2.elim
      | _ => cases r2 <;> exact t2.elim⟩
/-- enumerate of a list: each item in a new pair -/
def enumD : Nat → List D → List D
  | _, [] => []
  | i, d :: ds => .tup [.int (i : Nat), d] :: enumD (i + 1) ds
theorem enumD_get : ∀ {ds : List D} {k i : Nat} {d : D}, (enumD k ds)[i]? = some d → ∃ d0, ds[i]? = some d0 ∧ d = .tup [.int ((k + i : Nat) : Int), d0]
  | [], k, i, d, h => by simp [enumD] at h
  | d0 :: ds, k, 0, d, h => by
    simp [enumD] at h
    exact ⟨d0, rfl, by rw [← h] <;> rfl⟩
  | d0 :: ds, k, i + 1, d, h => by
    have h' : (enumD (k + 1) ds)[i]? = some d := by simpa [enumD] using h
    obtain ⟨d1, e1, e2⟩ := enumD_get h'
    exact ⟨d1, by simpa using e1, by rw [e2]; congr 3; omega⟩
theorem enumD_length : ∀ (ds : List D) (k : Nat), (enumD k ds).length = ds.length
  | [], _ => rfl
  | d :: ds, k => by simp [enumD, enumD_length ds (k + 1)]
def diEn (ta : DE) : DI := fun δ O R => ta δ O fun a O1 => oK (asL O1 a) fun ds => R (enumD 0 ds) (fun O' => asL O' a = some ds) O1
theorem pdi_enum {l : Expr} {tl : TE} {dl : DE} {p pos tpos : Pos} {elts : List Expr} {kk : Nat} (hg : Gl X "enumerate") (hm : X.mg "enumerate" = none) (h : PD X l tl dl) (hs : starEach [l] X.env = [(false, eval l X.env)] := by rfl) :
    PDI X (.Tuple elts kk tpos) (.Call (.Name "enumerate" p) [l] [] pos) (iEnum X.K (tCons tl tNil)) (diEn dl) := ⟨pi_enum hg hm (pa_cons h.pe pa_nil hs) hs, fun σ H F m δ O R Q hh en q f => h.sn.go σ H F m δ O _ _ hh en q fun v H1 F1 m1 a O1 s1 h1 r1 t1 => by
  obtain ⟨ds, e0, t1⟩ := t1.ex
  obtain ⟨p, xs, rfl, hp, rr⟩ := asL_rep h1 r1 e0
  have now : ∀ {H' F' : Hp} {m' : List Addr} {O' : Own}, Sub F1 m1 F' m' → Hol X.K F' H' m' O' → asL O' a = some ds → ∃ ys, H' p = some (.lst ys) ∧ RepL X.K F' m' ys ds := fun s' h' e' => by
    obtain ⟨p', ys, ep, hp', rr'⟩ := asL_rep h' (Rep.mono0 s' r1) e'
    cases ep
    exact ⟨ys, hp', rr'⟩
  refine ⟨p, xs, rfl, SqL.of hp, f (Ite X.K p) H1 F1 m1 _ _ O1 s1 h1 ⟨fun i H' F' m' O' s' h' e' hi => ?_, fun i H' F' m' O' s' h' e' hi => ?_, fun i H' F' m' O' x H2 d s' h' e' hd y => ?_⟩ t1⟩
  · rw [enumD_length] at hi
    obtain ⟨ys, hp', rr'⟩ := now s' h' e'
    have hl := rr'.length
    exact ⟨ys, ys[i], SqL.of hp', List.getElem?_eq_getElem (by omega)⟩
  · rw [enumD_length] at hi
    obtain ⟨ys, hp', rr'⟩ := now s' h' e'
    have hl := rr'.length
    exact ⟨ys, SqL.of hp', by omega⟩
  · obtain ⟨ys, hp', rr'⟩ := now s' h' e'
    obtain ⟨T, x0, e1, n, e2, y⟩ := y
    subst e1 e2
    obtain ⟨d0, e3, e4⟩ := enumD_get hd
    subst e4
    obtain ⟨v, e5, r2⟩ := rr'.get e3
    have e6 := y ys (SqL.of hp')
    rw [e5] at e6
    cases e6
    obtain ⟨s3, h3⟩ := h'.frz (ho := .tup [.int (i : Nat), x0]) n
    refine ⟨_, s3, h3, .tup upd_same (.cons ?_ (.cons (r2.mono s3) .nil))⟩
    rw [Nat.zero_add]
    exact .int _⟩

/-! ### comprehensions -/
def wipeD (δ : DSt) : List Nat → DSt
  | [] => δ
  | v :: vs => (wipeD δ vs).set v none
theorem EnvR.set0 {F : Hp} {m : List Addr} {σ : L2.St} {δ : DSt} (e : EnvR K F m σ δ) (i : Nat) : EnvR K F m (σ.set i none) (δ.set i none) := by
  refine ⟨by rw [List.length_set, List.length_set, e.len], fun j d' h => ?_⟩
  by_cases q : i = j
  · subst q
    by_cases hi : i < δ.length
    · rw [List.getElem?_set_self hi] at h
      cases h
    · rw [List.set_eq_of_length_le (Nat.le_of_not_lt hi)] at h
      exact absurd (List.getElem?_eq_some_iff.mp h).1 hi
  · rw [List.getElem?_set_ne q] at h ⊢
    exact e.at_ j d' h
theorem EnvR.wipe {F : Hp} {m : List Addr} {σ : L2.St} {δ : DSt} (e : EnvR K F m σ δ) : ∀ vs : List Nat, EnvR K F m (wipe σ vs) (wipeD δ vs)
  | [] => e
  | v :: vs => (EnvR.wipe e vs).set0 v
def lcL (g : DTg) (tt : DT) (te : DE) (chk : Own → Prop) (δ : DSt) (R : List D → Own → Prop) : List D → List D → Own → Prop
  | [], acc, O => chk O ∧ R acc O
  | d :: ds, acc, O => chk O ∧ g d δ O fun δ2 O2 => tt δ2 O2 fun b O3 => if b = true then te δ2 O3 fun y O4 => acc.length < 100000 ∧ lcL g tt te chk δ R ds (acc ++ [y]) O4 else lcL g tt te chk δ R ds acc O3
def dLc (di : DI) (g : DTg) (tt : DT) (te : DE) (vs : List Nat) : DA := fun δ O R => di δ O fun ds chk O1 => lcL g tt te chk (wipeD δ vs) R ds [] O1
def dYes : DT := fun _ O R => R true O
theorem snd_yes : SndT K tYes dYes := ⟨fun σ H F m δ O R Q h e t f => f true H F m O .refl h t⟩
structure PDTs (X : Cx) (ifs : List Expr) (tt : TT) (dt : DT) : Prop where
  pe : PTs X ifs tt
  sn : SndT X.K tt dt
theorem pdts_nil : PDTs X [] tYes dYes := ⟨pts_nil, snd_yes⟩
theorem pdts_one {c : Expr} {tt : TT} {dt : DT} (h : PDT X c tt dt) : PDTs X [c] tt dt := ⟨pts_one h.pe, h.sn⟩
theorem sndl_lc {wi : TI} {di : DI} {g : TG} {dg : DTg} {tt : TT} {dt : DT} {vs : List Nat} (hw : ∀ (σ : L2.St) (H F : Hp) (m : List Addr) (δ : DSt) (O : Own) (R : List D → (Own → Prop) → Own → Prop) (Q : It → Hp → Prop), Hol K F H m O → EnvR K F m σ δ → di δ O R →
    (∀ J H' F' m' ds chk O', Stp F H m F' H' m' → Hol K F' H' m' O' → ItD K F' m' J ds chk → R ds chk O' → Q J H') → wi σ H Q) (hg : SndG K g dg) (ho : Own1 vs g) (ht : SndT K tt dt) (he : Snd K te de) : SndL K (tLc wi g tt te vs) (dLc di dg dt de vs) := ⟨fun σ H F m δ O R Q h en q f => by
  refine hw σ H F m δ O _ _ h en q fun J H0 F0 m0 ds chk O0 s0 h0 jd q0 => ?_
  intro L hL
  have fL : F0 L = none := by
    cases z : F0 L with
    | none => rfl
    | some u => have := h0.ex L u z; rw [hL] at this; cases this
  have mL : L ∉ m0 := fun z => by obtain ⟨u, e⟩ := h0.th L z; rw [hL] at e; cases e
  -- L stands apart from all that the block knows
  have keep : ∀ {F1 H1 F2 H2 : Hp} {m1 m2 : List Addr} {acc : List V}, F1 L = none → L ∉ m1 → H1 L = some (.lst acc) → Stp F1 H1 m1 F2 H2 m2 → F2 L = none ∧ L ∉ m2 ∧ H2 L = some (.lst acc) := fun a b c s =>
    ⟨s.nf L _ c b a, (fun z => by
      have q := s.nw L z b
      rw [c] at q
      cases q), s.fr L _ c b⟩
  have put : ∀ {F1 H1 : Hp} {m1 : List Addr} {O1 : Own} {o : HO}, F1 L = none → L ∉ m1 → Hol K F1 H1 m1 O1 → Hol K F1 (L2.upd H1 L o) m1 O1 := fun {F1 H1 m1 O1 o} a b h => by
    refine ⟨fun p u z => ?_, h.nd, fun p hp => ?_, h.len, fun k u e => ?_⟩
    · rw [upd_ne (ne_of_none z a)]; exact h.ex p u z
    · obtain ⟨u, hu⟩ := h.th p hp
      exact ⟨u, by rw [upd_ne (fun z => b (by rw [← z]; exact hp))]; exact hu⟩
    · obtain ⟨p, ho', e1, e2, e3, e4⟩ := h.own k u e
      exact ⟨p, ho', e1, e2, by rw [upd_ne (fun z => b (by rw [← z]; exact List.mem_of_getElem? e1))]; exact e3, e4⟩
  -- the state of the walk
  let St' : Nat → Hp → Prop := fun i H' => ∃ F' m' O' acc as, Stp F0 H0 m0 F' (fun a => if a = L then none else H' a) m' ∧ Hol K F' H' m' O' ∧ F' L = none ∧ L ∉ m' ∧ H' L = some (.lst as) ∧ RepL K F' m' as acc ∧ lcL dg dt de chk (wipeD δ vs) R (ds.drop i) acc O'
  have st0 : St' 0 (L2.upd H0 L (.lst [])) := ⟨F0, m0, O0, [], [], ⟨fun _ _ z => z, List.prefix_refl _, fun a o z _ => by
    show (if a = L then none else L2.upd H0 L (.lst []) a) = some o
    have ne : a ≠ L := fun e => by rw [e, hL] at z; cases z
    rw [if_neg ne, upd_ne ne]
    exact z, fun _ z n => absurd z n, fun _ _ _ _ z => z⟩, put fL mL h0, fL, mL, upd_same, .nil, q0⟩
  refine ⟨fun i n H' => (n = ds.length - i ∧ i ≤ ds.length) ∧ St' i H', ⟨ds.length, ⟨rfl, Nat.zero_le _⟩, st0⟩, ?_⟩
  rintro i n H1 ⟨⟨rfl, hle⟩, F1, m1, O1, acc, as, s1, h1, f1, n1, l1, r1, w1⟩
  have sb1 : Sub F0 m0 F1 m1 := s1.sub
  -- a step behind H1 is a step from H0
  have next : ∀ {F2 H2 : Hp} {m2 : List Addr}, Stp F1 H1 m1 F2 H2 m2 → Stp F0 H0 m0 F2 (fun a => if a = L then none else H2 a) m2 := fun {F2 H2 m2} s => by
    refine ⟨fun a o z => s.ex a o (s1.ex a o z), s1.pre.trans s.pre, fun a o z nm => ?_, fun a z nm => ?_, fun a o z nm fz => ?_⟩
    · have z1 := s1.fr a o z nm
      have ne : a ≠ L := fun e => by rw [e, hL] at z; cases z
      simp only [if_neg ne] at z1 ⊢
      refine s.fr a o z1 fun y => ?_
      have := s1.nw a y nm
      rw [z] at this
      cases this
    · by_cases y : a ∈ m1
      · exact s1.nw a y nm
      · have z1 := s.nw a z y
        cases u : H0 a with
        | none => rfl
        | some o =>
          have z2 := s1.fr a o u nm
          have ne : a ≠ L := fun e => by rw [e, hL] at u; cases u
          simp only [if_neg ne] at z2
          rw [z1] at z2
          cases z2
    · have z1 := s1.fr a o z nm
      have ne : a ≠ L := fun e => by rw [e, hL] at z; cases z
      simp only [if_neg ne] at z1
      refine s.nf a o z1 (fun y => ?_) (s1.nf a o z nm fz)
      have := s1.nw a y nm
      rw [z] at this
      cases this
  cases dr : ds.drop i with
  | nil =>
    rw [dr] at w1
    refine .inl ⟨jd.stop i H1 F1 m1 O1 sb1 h1 w1.1 (Nat.le_antisymm hle (List.drop_eq_nil_iff.mp dr)), ?_⟩
    have hh : Hol K F1 (fun a => if a = L then none else H1 a) m1 O1 := by
      refine ⟨fun p u z => ?_, h1.nd, fun p hp => ?_, h1.len, fun k u e => ?_⟩
      · simp only [if_neg (ne_of_none z f1)]; exact h1.ex p u z
      · obtain ⟨u, hu⟩ := h1.th p hp
        exact ⟨u, by simp only [if_neg (fun z : p = L => n1 (by rw [← z]; exact hp))]; exact hu⟩
      · obtain ⟨p, ho', e1, e2, e3, e4⟩ := h1.own k u e
        exact ⟨p, ho', e1, e2, by simp only [if_neg (fun z : p = L => n1 (by rw [← z]; exact List.mem_of_getElem? e1))]; exact e3, e4⟩
    have e := f L (fun a => if a = L then none else H1 a) F1 m1 as acc O1 (s0.trans s1) hh (by simp) r1 w1.2
    have eq : L2.upd (fun a => if a = L then none else H1 a) L (.lst as) = H1 := by
      funext b
      by_cases z : b = L
      · rw [z, upd_same, l1]
      · rw [upd_ne z]; simp only [if_neg z]
    rw [eq] at e
    exact e
  | cons d r =>
    rw [dr] at w1
    obtain ⟨hl, hd, hr⟩ := drop_get dr
    refine .inr ⟨jd.go i H1 F1 m1 O1 sb1 h1 w1.1 hl, St' (i + 1), fun H' w => ⟨ds.length - (i + 1), by omega, ⟨rfl, hl⟩, w⟩, fun x H2 y => ?_⟩
    obtain ⟨F2, s2, h2, r2⟩ := jd.yld i H1 F1 m1 O1 x H2 d sb1 h1 w1.1 hd y
    have en2 : EnvR K F2 m1 (L2.wipe σ vs) (wipeD δ vs) := ((en.mono (s0.trans s1)).wipe vs).mono s2
    have wi : L2.wipe (L2.wipe σ vs) vs = L2.wipe σ vs := by
      have : ∀ us : List Nat, (∀ u ∈ us, u ∈ vs) → L2.wipe (L2.wipe σ us) vs = L2.wipe σ vs := by
        intro us
        induction us with
        | nil => intro _; rfl
        | cons u us ih =>
          intro hu
          show L2.wipe ((L2.wipe σ us).set u none) vs = _
          rw [wipe_set (hu u List.mem_cons_self), ih fun v hv => hu v (List.mem_cons_of_mem _ hv)]
      exact this vs fun _ h => h
    have gg := ho.go x (L2.wipe σ vs) H2 (fun σ2 H3 => tt σ2 H3 fun b H4 => if b = true then te σ2 H4 fun y H5 => ∃ acc, H5 L = some (.lst acc) ∧ acc.length < sizeLine ∧ St' (i + 1) (L2.upd H5 L (.lst (acc ++ [y]))) else St' (i + 1) H4) (by
      refine hg.go x d _ H2 F2 m1 _ O1 _ _ h2 en2 r2 w1.2 fun σ3 H3 F3 m3 δ3 O3 s3 h3 e3 t3 => ?_
      refine ht.go σ3 H3 F3 m3 δ3 O3 _ _ h3 e3 t3 fun b H4 F4 m4 O4 s4 h4 t4 => ?_
      have s24 := s2.trans (s3.trans s4)
      obtain ⟨f4, n4, l4⟩ := keep f1 n1 l1 s24
      cases b with
      | true =>
        refine he.go σ3 H4 F4 m4 δ3 O4 _ _ h4 (e3.mono s4) t4 fun v H5 F5 m5 w O5 s5 h5 r5 t5 => ?_
        have s25 := s24.trans s5
        obtain ⟨f5, n5, l5⟩ := keep f1 n1 l1 s25
        have la := r1.length
        refine ⟨as, l5, sz5' (by rw [la]; exact t5.1), F5, m5, O5, acc ++ [w], as ++ [v], ?_, put f5 n5 h5, f5, n5, upd_same, (r1.mono s25).append (.cons r5 .nil), by rw [hr]; exact t5.2⟩
        have q := next s25
        have eq : (fun a => if a = L then none else L2.upd H5 L (.lst (as ++ [v])) a) = fun a => if a = L then none else H5 a := by
          funext a
          by_cases z : a = L
          · simp only [if_pos z]
          · simp only [if_neg z]; rw [upd_ne z]
        rw [eq]
        exact q
      | false => exact ⟨F4, m4, O4, acc, as, next s24, h4, f4, n4, l4, r1.mono s24, by rw [hr]; exact t4⟩)
    rw [wi] at gg
    exact gg⟩
theorem pl_lc {elt tg iter : Expr} {ifs : List Expr} {scope : Scope} {own : List (Str × Nat)} {wi : TI} {di : DI} {g : TG} {dg : DTg} {tt : TT} {dt : DT} (hc : X.calm = true) (hN : X.N.Nodup) (hi : PDI X tg iter wi di) (ok : BlkOk X.N X.env.scope scope own)
    (hg : ∀ (s : Shared) (H : Hp) (C : Addr) (cl : List (Str × Addr)) (fp : List Addr), PDG (X.blk s H scope (compEnvC scope cl C X.env) fp) tg g dg) (ho : Own1 (own.map (·.2)) g) (ht : ∀ (s : Shared) (H : Hp) (C : Addr) (cl : List (Str × Addr)) (fp : List Addr), PDTs (X.blk s H scope (compEnvC scope cl C X.env) fp) ifs tt dt)
    (he : ∀ (s : Shared) (H : Hp) (C : Addr) (cl : List (Str × Addr)) (fp : List Addr), PD (X.blk s H scope (compEnvC scope cl C X.env) fp) elt te de) (hs : ∀ x, foldedSetIterable iter X.env x = pure x := by intro _; rfl) :
    PDL X (.ListComp elt [⟨tg, iter, ifs, 0⟩] scope pos) (tLc wi g tt te (own.map (·.2))) (dLc di dg dt de (own.map (·.2))) :=
  ⟨pe_lc hc hN hi.pe ok (fun s H C cl fp => (hg s H C cl fp).pe) (fun s H C cl fp => (ht s H C cl fp).pe) (fun s H C cl fp => (he s H C cl fp).pe) hs,
    sndl_lc hi.sn (hg {} (fun _ => none) 0 [] []).sn ho (ht {} (fun _ => none) 0 [] []).sn (he {} (fun _ => none) 0 [] []).sn⟩
/-- name = [..] on one line, the name a local -/
theorem pds_setLc {i : Nat} {y : Str} {py : Pos} {elt tg iter : Expr} {ifs : List Expr} {scope : Scope} {own : List (Str × Nat)} {spos : Pos} {wi : TI} {di : DI} {g : TG} {dg : DTg} {tt : TT} {dt : DT} (hc : X.calm = true) (hN : X.N.Nodup) (hy : X.N[i]? = some y) (hyl : X.env.scope.names.lookup y = some .local)
    (hsw : swapsWith (.ListComp elt [⟨tg, iter, ifs, 0⟩] scope pos) (some (.Name y py)) spos.line X.env = pure true) (hi : PDI X tg iter wi di) (ok : BlkOk X.N X.env.scope scope own)
    (hg : ∀ (s : Shared) (H : Hp) (C : Addr) (cl : List (Str × Addr)) (fp : List Addr), PDG (X.blk s H scope (compEnvC scope cl C X.env) fp) tg g dg) (ho : Own1 (own.map (·.2)) g) (ht : ∀ (s : Shared) (H : Hp) (C : Addr) (cl : List (Str × Addr)) (fp : List Addr), PDTs (X.blk s H scope (compEnvC scope cl C X.env) fp) ifs tt dt)
    (he : ∀ (s : Shared) (H : Hp) (C : Addr) (cl : List (Str × Addr)) (fp : List Addr), PD (X.blk s H scope (compEnvC scope cl C X.env) fp) elt te de) (hs : ∀ x, foldedSetIterable iter X.env x = pure x := by intro _; rfl) :
    PS X (.Assign [.Name y py] (.ListComp elt [⟨tg, iter, ifs, 0⟩] scope pos) spos) (tAsg (tLc wi g tt te (own.map (·.2))) (gName i)) ∧ SndL X.K (tLc wi g tt te (own.map (·.2))) (dLc di dg dt de (own.map (·.2))) :=
  ⟨ps_setLc hc hN hy hyl hsw hi.pe ok (fun s H C cl fp => (hg s H C cl fp).pe) (fun s H C cl fp => (ht s H C cl fp).pe) (fun s H C cl fp => (he s H C cl fp).pe) hs,
    sndl_lc hi.sn (hg {} (fun _ => none) 0 [] []).sn ho (ht {} (fun _ => none) 0 [] []).sn (he {} (fun _ => none) 0 [] []).sn⟩
theorem snd_frz {t : DA} (h : SndL K te t) : Snd K te (dFrz t) := ⟨fun σ H F m δ O R Q hh en hr f => h.go σ H F m δ O _ Q hh en hr fun p H' F' m' xs ds O' s h1 n r q => (f.mono s).lst h1 r q p n⟩
theorem snd_new {t : DA} (h : SndL K te t) : Snd K te (dNew t) := ⟨fun σ H F m δ O R Q hh en hr f => h.go σ H F m δ O _ Q hh en hr fun p H' F' m' xs ds O' s h1 n r q => by
  obtain ⟨s2, h2⟩ := h1.new n (.lst r)
  refine f _ _ _ _ _ _ (s.trans s2) h2 (.own ?_) q
  rw [h1.len, List.getElem?_append_right (Nat.le_refl _), Nat.sub_self]
  rfl⟩
theorem lc_frz {i : Nat} {t : DA} (h : PS X st (tAsg te (gName i)) ∧ SndL X.K te t) : PDS X st (tAsg te (gName i)) (dAsg (dFrz t) (dgName i)) := ⟨h.1, snds_asg (snd_frz h.2) (sndg_name i)⟩
theorem lc_new {i : Nat} {t : DA} (h : PS X st (tAsg te (gName i)) ∧ SndL X.K te t) : PDS X st (tAsg te (gName i)) (dAsg (dNew t) (dgName i)) := ⟨h.1, snds_asg (snd_new h.2) (sndg_name i)⟩
end
end DL

/-! DL, part f: defs and their calls; what is done with a def's own lists at its end; methods of lists; dicts with text keys. -/
namespace DL
open PySem L2

/-! ### promises over data -/
abbrev DSp := List D → Own → (D → Own → Prop) → Prop
def spD (K : PySem.W.Frag) (S : DSp) : Sp := fun vs H Q _ => ∃ F m ds O R, RepL K F m vs ds ∧ Hol K F H m O ∧ S ds O R ∧ Fin K F H m R Q
abbrev FnD (P : Program) (w : World) (K : PySem.W.Frag) (mg : Str → Option Value) (base : Heap) (k : Nat) (f : Addr) (fd : FuncData) (ps : List Str) (S : DSp) : Prop := FnOk P w K mg base CX0 k f fd ps (spD K S)
def startD (N : List Str) (ds : List D) : DSt := ds.map some ++ List.replicate (N.length - ds.length) none

/-! ### handles below n alone -/
mutual
inductive Hd (n : Nat) : D → Prop
  | non : Hd n .non
  | bl (b : Bool) : Hd n (.bl b)
  | int (i : Int) : Hd n (.int i)
  | str (s : Str) : Hd n (.str s)
  | tup {ds : List D} (h : HdL n ds) : Hd n (.tup ds)
  | lst {ds : List D} (h : HdL n ds) : Hd n (.lst ds)
  | ins {C : Addr} {gs : List (Str × D)} (h : HdF n gs) : Hd n (.ins C gs)
  | scr (ns : List Int) : Hd n (.scr ns)
  | own {h : Nat} (l : h < n) : Hd n (.own h)
  | ref (a : Addr) : Hd n (.ref a)
inductive HdL (n : Nat) : List D → Prop
  | nil : HdL n []
  | cons {d : D} {ds : List D} (h : Hd n d) (t : HdL n ds) : HdL n (d :: ds)
inductive HdF (n : Nat) : List (Str × D) → Prop
  | nil : HdF n []
  | cons {k : Str} {d : D} {ds : List (Str × D)} (h : Hd n d) (t : HdF n ds) : HdF n ((k, d) :: ds)
end
inductive HdO (n : Nat) : DO → Prop
  | lst {ds : List D} (h : HdL n ds) : HdO n (.lst ds)
  | dic {gs : List (Str × D)} (h : HdF n gs) : HdO n (.dic gs)
  | ins {C : Addr} {gs : List (Str × D)} (h : HdF n gs) : HdO n (.ins C gs)
mutual
theorem Hd.le {n k : Nat} (l : n ≤ k) : ∀ {d : D}, Hd n d → Hd k d
  | _, .non => .non
  | _, .bl b => .bl b
  | _, .int i => .int i
  | _, .str s => .str s
  | _, .tup h => .tup (HdL.le l h)
  | _, .lst h => .lst (HdL.le l h)
  | _, .ins h => .ins (HdF.le l h)
  | _, .scr s => .scr s
  | _, .own h => .own (Nat.lt_of_lt_of_le h l)
  | _, .ref a => .ref a
theorem HdL.le {n k : Nat} (l : n ≤ k) : ∀ {d : List D}, HdL n d → HdL k d
  | _, .nil => .nil
  | _, .cons h t => .cons (Hd.le l h) (HdL.le l t)
theorem HdF.le {n k : Nat} (l : n ≤ k) : ∀ {d : List (Str × D)}, HdF n d → HdF k d
  | _, .nil => .nil
  | _, .cons h t => .cons (Hd.le l h) (HdF.le l t)
end
theorem HdL.of {n : Nat} : ∀ {ds : List D}, (∀ d ∈ ds, Hd n d) → HdL n ds
  | [], _ => .nil
  | d :: ds, h => .cons (h d List.mem_cons_self) (HdL.of fun x hx => h x (List.mem_cons_of_mem _ hx))
theorem HdL.mem {n : Nat} : ∀ {ds : List D}, HdL n ds → ∀ d ∈ ds, Hd n d
  | _, .nil, _, h => by cases h
  | _, .cons h t, d, hd => by
    rcases List.mem_cons.mp hd with e | e
    · rw [e]; exact h
    · exact HdL.mem t d e
theorem HdL.append {n : Nat} {a b : List D} (h : HdL n a) (g : HdL n b) : HdL n (a ++ b) := HdL.of fun d hd => (List.mem_append.mp hd).elim (h.mem d) (g.mem d)
theorem HdL.ints {n : Nat} (ns : List Int) : HdL n (ns.map D.int) := HdL.of fun d hd => by
  obtain ⟨i, _, rfl⟩ := List.mem_map.mp hd
  exact .int i
section
variable {K : PySem.W.Frag} {F F' H H' : Hp} {m m' : List Addr}
mutual
theorem Rep.hd : ∀ {v : V} {d : D}, Rep K F m v d → Hd m.length d
  | _, _, .non => .non
  | _, _, .bl b => .bl b
  | _, _, .int i => .int i
  | _, _, .str x => .str x
  | _, _, .tup h r => .tup (RepL.hd r)
  | _, _, .lst h r => .lst (RepL.hd r)
  | _, _, .ins h r => .ins (RepF.hd r)
  | _, _, .scr h => .scr _
  | _, _, .own e => .own (List.getElem?_eq_some_iff.mp e).1
  | _, _, .ref a => .ref a
theorem RepL.hd : ∀ {v : List V} {d : List D}, RepL K F m v d → HdL m.length d
  | _, _, .nil => .nil
  | _, _, .cons r t => .cons (Rep.hd r) (RepL.hd t)
theorem RepF.hd : ∀ {v : List (Str × V)} {d : List (Str × D)}, RepF K F m v d → HdF m.length d
  | _, _, .nil => .nil
  | _, _, .cons r t => .cons (Rep.hd r) (RepF.hd t)
end
theorem RepK.hd {v : List (Key × V)} {d : List (Str × D)} (h : RepK K F m v d) : HdF m.length d := by
  induction h with
  | nil => exact .nil
  | cons r _ ih => exact .cons r.hd ih
theorem RepO.hd {v : HO} {d : DO} (h : RepO K F m v d) : HdO m.length d := by
  cases h with
  | lst r => exact .lst r.hd
  | dic r => exact .dic r.hd
  | ins r => exact .ins r.hd
theorem Hol.hd {O : Own} (h : Hol K F H m O) {k : Nat} {o : DO} (e : O[k]? = some (some o)) : HdO O.length o := by
  obtain ⟨a, ho, _, _, _, r⟩ := h.own k o e
  rw [h.len]
  exact r.hd
/-- fewer handles are known, more is fixed -/
theorem get_take {α : Type} {l : List α} {n i : Nat} {a : α} (h : l[i]? = some a) (hi : i < n) : (l.take n)[i]? = some a := by
  rw [List.getElem?_take_of_lt hi]
  exact h
mutual
theorem Rep.cutM {n : Nat} (s : ∀ a o, F a = some o → F' a = some o) : ∀ {v : V} {d : D}, Hd n d → Rep K F m v d → Rep K F' (m.take n) v d
  | _, _, _, .non => .non
  | _, _, _, .bl b => .bl b
  | _, _, _, .int i => .int i
  | _, _, _, .str x => .str x
  | _, _, .tup hd, .tup h r => .tup (s _ _ h) (RepL.cutM s hd r)
  | _, _, .lst hd, .lst h r => .lst (s _ _ h) (RepL.cutM s hd r)
  | _, _, .ins hd, .ins h r => .ins (s _ _ h) (RepF.cutM s hd r)
  | _, _, _, .scr h => .scr (sqL_mono s h)
  | _, _, .own l, .own e => .own (get_take e l)
  | _, _, _, .ref a => .ref a
theorem RepL.cutM {n : Nat} (s : ∀ a o, F a = some o → F' a = some o) : ∀ {v : List V} {d : List D}, HdL n d → RepL K F m v d → RepL K F' (m.take n) v d
  | _, _, _, .nil => .nil
  | _, _, .cons h g, .cons r t => .cons (Rep.cutM s h r) (RepL.cutM s g t)
theorem RepF.cutM {n : Nat} (s : ∀ a o, F a = some o → F' a = some o) : ∀ {v : List (Str × V)} {d : List (Str × D)}, HdF n d → RepF K F m v d → RepF K F' (m.take n) v d
  | _, _, _, .nil => .nil
  | _, _, .cons h g, .cons r t => .cons (Rep.cutM s h r) (RepF.cutM s g t)
end
theorem RepK.cutM {n : Nat} (s : ∀ a o, F a = some o → F' a = some o) {v : List (Key × V)} {d : List (Str × D)} (h : RepK K F m v d) : HdF n d → RepK K F' (m.take n) v d := by
  induction h with
  | nil => intro _; exact .nil
  | cons r _ ih => intro g; cases g with | cons g1 g2 => exact .cons (r.cutM s g1) (ih g2)
theorem RepO.cutM {n : Nat} (s : ∀ a o, F a = some o → F' a = some o) {v : HO} {d : DO} (g : HdO n d) (h : RepO K F m v d) : RepO K F' (m.take n) v d := by
  cases h with
  | lst r => cases g with | lst g => exact .lst (r.cutM s g)
  | dic r => cases g with | dic g => exact .dic (r.cutM s g)
  | ins r => cases g with | ins g => exact .ins (r.cutM s g)
end
/-! ### a datum with what stands under the handles from n on put in -/
mutual
inductive Res (O : Own) (n : Nat) : D → D → Prop
  | same {d : D} (h : Hd n d) : Res O n d d
  | tup {ds es : List D} (h : ResL O n ds es) : Res O n (.tup ds) (.tup es)
  | lst {ds es : List D} (h : ResL O n ds es) : Res O n (.lst ds) (.lst es)
  | ins {C : Addr} {ds es : List (Str × D)} (h : ResF O n ds es) : Res O n (.ins C ds) (.ins C es)
  | own {k : Nat} {ds es : List D} (l : n ≤ k) (e : O[k]? = some (some (.lst ds))) (h : ResL O n ds es) : Res O n (.own k) (.lst es)
  | ownI {k : Nat} {C : Addr} {ds es : List (Str × D)} (l : n ≤ k) (e : O[k]? = some (some (.ins C ds))) (h : ResF O n ds es) : Res O n (.own k) (.ins C es)
inductive ResL (O : Own) (n : Nat) : List D → List D → Prop
  | nil : ResL O n [] []
  | cons {d e : D} {ds es : List D} (h : Res O n d e) (t : ResL O n ds es) : ResL O n (d :: ds) (e :: es)
inductive ResF (O : Own) (n : Nat) : List (Str × D) → List (Str × D) → Prop
  | nil : ResF O n [] []
  | cons {k : Str} {d e : D} {ds es : List (Str × D)} (h : Res O n d e) (t : ResF O n ds es) : ResF O n ((k, d) :: ds) ((k, e) :: es)
end
theorem ResL.same {O : Own} {n : Nat} : ∀ {ds : List D}, HdL n ds → ResL O n ds ds
  | _, .nil => .nil
  | _, .cons h t => .cons (.same h) (ResL.same t)
theorem ResF.same {O : Own} {n : Nat} : ∀ {ds : List (Str × D)}, HdF n ds → ResF O n ds ds
  | _, .nil => .nil
  | _, .cons h t => .cons (.same h) (ResF.same t)
section
variable {K : PySem.W.Frag} {F H F2 H2 : Hp} {m m2 : List Addr} {O2 : Own} {n : Nat}
/-- what is fixed when the handles from n on are given up -/
def fixed (F2 H2 : Hp) (m2 : List Addr) (n : Nat) : Hp := fun a => if a ∈ m2.drop n then H2 a else F2 a
theorem fixed_ex (h : Hol K F2 H2 m2 O2) : ∀ a o, F2 a = some o → fixed F2 H2 m2 n a = some o := fun a o e => by
  unfold fixed
  split
  · exact h.ex a o e
  · exact e
theorem fixed_in {a : Addr} (hi : a ∈ m2.drop n) : fixed F2 H2 m2 n a = H2 a := by unfold fixed; rw [if_pos hi]
theorem at_drop {k : Nat} {a : Addr} (e : m2[k]? = some a) (l : n ≤ k) : a ∈ m2.drop n := by
  refine List.mem_of_getElem? (i := k - n) ?_
  rw [List.getElem?_drop]
  have : n + (k - n) = k := by omega
  rw [this]
  exact e
mutual
theorem Res.rep (h : Hol K F2 H2 m2 O2) : ∀ {d d' : D} {v : V}, Res O2 n d d' → Rep K F2 m2 v d → Rep K (fixed F2 H2 m2 n) (m2.take n) v d'
  | _, _, _, .same hd, r => r.cutM (fixed_ex h) hd
  | _, _, _, .tup g, .tup q r => .tup (fixed_ex h _ _ q) (ResL.rep h g r)
  | _, _, _, .lst g, .lst q r => .lst (fixed_ex h _ _ q) (ResL.rep h g r)
  | _, _, _, .ins g, .ins q r => .ins (fixed_ex h _ _ q) (ResF.rep h g r)
  | _, _, _, .own l e g, .own q => by
    obtain ⟨_, ho, e1, e2⟩ := h.at_ e q
    cases e2 with
    | lst r => exact .lst ((fixed_in (at_drop q l)).trans e1) (ResL.rep h g r)
  | _, _, _, .ownI l e g, .own q => by
    obtain ⟨_, ho, e1, e2⟩ := h.at_ e q
    cases e2 with
    | ins r => exact .ins ((fixed_in (at_drop q l)).trans e1) (ResF.rep h g r)
theorem ResL.rep (h : Hol K F2 H2 m2 O2) : ∀ {d d' : List D} {v : List V}, ResL O2 n d d' → RepL K F2 m2 v d → RepL K (fixed F2 H2 m2 n) (m2.take n) v d'
  | _, _, _, .nil, .nil => .nil
  | _, _, _, .cons g t, .cons r s => .cons (Res.rep h g r) (ResL.rep h t s)
theorem ResF.rep (h : Hol K F2 H2 m2 O2) : ∀ {d d' : List (Str × D)} {v : List (Str × V)}, ResF O2 n d d' → RepF K F2 m2 v d → RepF K (fixed F2 H2 m2 n) (m2.take n) v d'
  | _, _, _, .nil, .nil => .nil
  | _, _, _, .cons g t, .cons r s => .cons (Res.rep h g r) (ResF.rep h t s)
end
theorem take_pre {α : Type} {l l' : List α} (p : l <+: l') {n : Nat} (h : l.length ≤ n) : l <+: l'.take n := by
  obtain ⟨r, rfl⟩ := p
  rw [List.take_append, List.take_of_length_le h]
  exact List.prefix_append _ _
/-- the handles from n on are given up -/
theorem give_up (s : Stp F H m F2 H2 m2) (h : Hol K F2 H2 m2 O2) (l : m.length ≤ n) (hd : ∀ (k : Nat) (o : DO), (O2.take n)[k]? = some (some o) → HdO n o) :
    Stp F H m (fixed F2 H2 m2 n) H2 (m2.take n) ∧ Hol K (fixed F2 H2 m2 n) H2 (m2.take n) (O2.take n) := by
  have apart : ∀ {a : Addr}, a ∈ m2.take n → a ∈ m2.drop n → False := fun h1 h2 => by
    have nd := h.nd
    rw [← List.take_append_drop n m2, List.nodup_append] at nd
    exact nd.2.2 _ h1 _ h2 rfl
  refine ⟨⟨fun a o e => fixed_ex h a o (s.ex a o e), take_pre s.pre l, s.fr, fun a e ne => s.nw a (List.mem_of_mem_take e) ne, fun a o e ne f => ?_⟩, ⟨fun a o e => ?_, h.nd.sublist (List.take_sublist _ _), fun a e => h.th a (List.mem_of_mem_take e), by rw [List.length_take, List.length_take, h.len], fun k o e => ?_⟩⟩
  · unfold fixed
    rw [if_neg]
    · exact s.nf a o e ne f
    · intro q
      have := s.nw a (List.mem_of_mem_drop q) ne
      rw [e] at this
      cases this
  · unfold fixed at e
    split at e
    · exact e
    · exact h.ex a o e
  · have hk : k < n := by
      have := (List.getElem?_eq_some_iff.mp e).1
      rw [List.length_take] at this
      omega
    have e' : O2[k]? = some (some o) := by rw [List.getElem?_take_of_lt hk] at e; exact e
    obtain ⟨a, ho, e1, e2, e3, e4⟩ := h.own k o e'
    refine ⟨a, ho, get_take e1 hk, ?_, e3, e4.cutM (fixed_ex h) (hd k o e)⟩
    unfold fixed
    rw [if_neg]
    · exact e2
    · exact fun q => apart (List.mem_of_getElem? (get_take e1 hk)) q
end
/-- what a def that changes nothing hands back: its own things are given up -/
def Pure (O : Own) (R : D → Own → Prop) : D → Own → Prop := fun d O' => ∃ d', O'.take O.length = O ∧ Res O' O.length d d' ∧ R d' O
theorem Pure.same {O : Own} {R : D → Own → Prop} {d : D} (h : Hd O.length d) (q : R d O) : Pure O R d O := ⟨d, List.take_length, .same h, q⟩
theorem Pure.up {O O' : Own} {R : D → Own → Prop} {d d' : D} (e : O'.take O.length = O) (h : Res O' O.length d d') (q : R d' O) : Pure O R d O' := ⟨d', e, h, q⟩
theorem Fin.pure {K : PySem.W.Frag} {F H : Hp} {m : List Addr} {O : Own} {R : D → Own → Prop} {Q : VK} (hh : Hol K F H m O) (f : Fin K F H m R Q) : Fin K F H m (Pure O R) Q := fun v H2 F2 m2 d O2 s h r q => by
  obtain ⟨d', e, g, q⟩ := q
  have l : m.length ≤ O.length := Nat.le_of_eq hh.len.symm
  obtain ⟨s', h'⟩ := give_up (n := O.length) s h l (fun k o z => hh.hd (by rw [← e]; exact z))
  rw [e] at h'
  exact f v H2 _ _ d' O s' h' (g.rep h r) q

section
variable {P : Program} {w : World} {K : PySem.W.Frag} {mg : Str → Option Value} {base : Heap}
theorem env_start {F : Hp} {m : List Addr} {vs : List V} {ds : List D} (N : List Str) (r : RepL K F m vs ds) : EnvR K F m (L2.start N vs) (startD N ds) := by
  have hl := r.length
  refine ⟨by unfold L2.start startD; rw [List.length_append, List.length_append, List.length_map, List.length_map, List.length_replicate, List.length_replicate, hl], fun i d h => ?_⟩
  unfold L2.start startD at *
  by_cases hi : i < ds.length
  · rw [List.getElem?_append_left (by simpa using hi), List.getElem?_map] at h
    cases e : ds[i]? with
    | none => rw [e] at h; cases h
    | some d' =>
      rw [e] at h
      cases h
      obtain ⟨v, e1, r1⟩ := r.get e
      exact ⟨v, by rw [List.getElem?_append_left (by rw [List.length_map]; omega), List.getElem?_map, e1]; rfl, r1⟩
  · rw [List.getElem?_append_right (by rw [List.length_map]; omega), List.getElem?_replicate] at h
    split at h <;> cases h
/-- THE RULE of a def, over data -/
theorem fnD_of {x qual : Str} {st : Stmt} {f : Addr} {fd : FuncData} {N ps : List Str} {k : Nat} {S : DSp} (F : Fun K x qual st f fd) (Sc : FnScope N ps (defScope st)) (len : ∀ ds O R, S ds O R → ds.length = ps.length)
    (hbody : ∀ (cdv : Value) (A : Around) (outer : List Env) (s : Shared) (H : Hp) (E : XK), Room k (A.deeper (PyProof.Rows.envOfC qual (defScope st) s.heap.objs.size f cdv)) →
      ∃ ts t, PDSs (cxOf CX0 P w K mg base N qual (defScope st) f cdv A outer s H E).nox (defBody st) ts t ∧ ∀ ds O R, S ds O R → t { nx := fun _ O' => R .non O', rt := R } (startD N ds) O) : FnD P w K mg base (k + 1) f fd ps S := by
  refine F.ok Sc (fun vs H Q E h => ?_) fun cdv A outer s H vs Q E hr hsp => ?_
  · obtain ⟨F', m, ds, O, R, r, _, q, _⟩ := h
    rw [r.length]
    exact len ds O R q
  · obtain ⟨F', m, ds, O, R, r, hh, q, fn⟩ := hsp
    obtain ⟨ts, t, d, g⟩ := hbody cdv A outer s H E hr
    refine ⟨ts, d.pe, d.sn.go _ H F' m _ O _ _ hh (env_start N r) (g ds O R q) ⟨fun σ' H' F2 m2 δ' O' s2 h2 _ q2 => fn .non H' F2 m2 .non O' s2 h2 .non q2, fn, fun _ _ _ _ _ _ _ _ _ z => z.elim, fun _ _ _ _ _ _ _ _ _ z => z.elim⟩⟩
/-- .. that changes nothing -/
theorem fnD_pure {x qual : Str} {st : Stmt} {f : Addr} {fd : FuncData} {N ps : List Str} {k : Nat} {S : DSp} (F : Fun K x qual st f fd) (Sc : FnScope N ps (defScope st)) (len : ∀ ds O R, S ds O R → ds.length = ps.length)
    (hbody : ∀ (cdv : Value) (A : Around) (outer : List Env) (s : Shared) (H : Hp) (E : XK), Room k (A.deeper (PyProof.Rows.envOfC qual (defScope st) s.heap.objs.size f cdv)) →
      ∃ ts t, PDSs (cxOf CX0 P w K mg base N qual (defScope st) f cdv A outer s H E).nox (defBody st) ts t ∧ ∀ ds O R, S ds O R → t { nx := fun _ O' => Pure O R .non O', rt := Pure O R } (startD N ds) O) : FnD P w K mg base (k + 1) f fd ps S := by
  refine F.ok Sc (fun vs H Q E h => ?_) fun cdv A outer s H vs Q E hr hsp => ?_
  · obtain ⟨F', m, ds, O, R, r, _, q, _⟩ := h
    rw [r.length]
    exact len ds O R q
  · obtain ⟨F', m, ds, O, R, r, hh, q, fn⟩ := hsp
    obtain ⟨ts, t, d, g⟩ := hbody cdv A outer s H E hr
    have fp := fn.pure hh
    refine ⟨ts, d.pe, d.sn.go _ H F' m _ O _ _ hh (env_start N r) (g ds O R q) ⟨fun σ' H' F2 m2 δ' O' s2 h2 _ q2 => fp .non H' F2 m2 .non O' s2 h2 .non q2, fp, fun _ _ _ _ _ _ _ _ _ z => z.elim, fun _ _ _ _ _ _ _ _ _ z => z.elim⟩⟩
theorem fnD_imp {f : Addr} {fd : FuncData} {ps : List Str} {k : Nat} {S S' : DSp} (F : FnD P w K mg base k f fd ps S) (h : ∀ ds O R, S' ds O R → S ds O R) : FnD P w K mg base k f fd ps S' :=
  F.imp fun vs H Q E ⟨F', m, ds, O, R, r, hh, q, fn⟩ => ⟨F', m, ds, O, R, r, hh, h ds O R q, fn⟩
end
theorem Room_u0 {k : Nat} {A : Around} (r : Room k A) : A.units < cLine := by have := r.un; omega
theorem Room_u1 {k : Nat} {A : Around} (r : Room k A) : A.units + 1 < cLine := by have := r.un; omega
theorem Room_u64 {k : Nat} {A : Around} (r : Room k A) : A.units + 64 < cLine := by have := r.un; omega
theorem Room_u65 {k : Nat} {A : Around} (r : Room k A) : A.units + 65 < cLine := by have := r.un; omega
/-- a def of the text as it stands behind the top -/
structure Def (K : PySem.W.Frag) (x qual : Str) (st : Stmt) (ps : List Str) where
  f : Addr
  fd : FuncData
  F : Fun K x qual st f fd
  b : Binds K fd ps []
/-! ### calls -/
def dCall (S : DSp) (da : DA) : DE := fun δ O R => da δ O fun ds O1 => S ds O1 R
def dMeth (C : Addr) (mn : Str) (S : DSp) (ta : DE) (da : DA) : DE := fun δ O R => ta δ O fun a O1 => oK (asI O1 a) fun p => p.1 = C ∧ p.2.lookup mn = none ∧ da δ O1 fun ds O2 => S (a :: ds) O2 R
def dMake (C : Addr) (S : DSp) (da : DA) : DE := fun δ O R => da δ O fun ds O1 => S (.own O1.length :: ds) (O1 ++ [some (.ins C [])]) fun d O2 => d = .non ∧ R (.own O1.length) O2
section
variable {X : Cx} {k : Nat} {f C : Addr} {fd : FuncData} {ps : List Str} {S : DSp} {x mn : Str} {p pos apos : Pos} {e o : Expr} {es : List Expr} {t : TA} {da : DA} {to : TE} {dO : DE}
theorem snd_call (ha : SndA X.K t da) : Snd X.K (tCall (spD X.K S) [] E0 t) (dCall S da) := ⟨fun σ H F m δ O R Q h en q fn => ha.go σ H F m δ O _ _ h en q fun vs H1 F1 m1 ds O1 s1 h1 r1 t1 =>
  ⟨F1, m1, ds, O1, R, by rw [List.append_nil]; exact r1, h1, t1, fn.mono s1⟩⟩
theorem pd_call (G : FnD X.prog X.w X.K X.mg X.base k f fd ps S) (hr : Room k X.A) (hg : Gl X x) (hm : X.mg x = some (.ref f)) (hk : PySem.W.keepIn X.K (.ref f) = true) (hb : Binds X.K fd ps [])
    (ha : PDA X (e :: es) t da) (hdb : (x == ("__debug__" : Str)) = false := by decide) (he : starEach (e :: es) X.env = (false, eval e X.env) :: starEach es X.env := by rfl) (hpl : (backTo pos (starEach es X.env)).any (·.1) = false := by rfl) :
    PD X (.Call (.Name x p) (e :: es) [] pos) (tCall (spD X.K S) [] E0 t) (dCall S da) := ⟨pe_call G hr hg hm hk hb .nil pass0 ha.pe hdb he hpl, snd_call ha.sn⟩
theorem pd_callK {P : Program} {w : World} {K : PySem.W.Frag} {mg : Str → Option Value} {base : Heap} (G : FnD P w K mg base k f fd ps S) (hr : Room k X.A) (hg : Gl X x) (hm : mg x = some (.ref f)) (hk : PySem.W.keepIn K (.ref f) = true) (hb : Binds K fd ps [])
    (ha : PDA X (e :: es) t da) (hX : X.prog = P ∧ X.w = w ∧ X.K = K ∧ X.mg = mg ∧ X.base = base := by exact ⟨rfl, rfl, rfl, rfl, rfl⟩) (hdb : (x == ("__debug__" : Str)) = false := by decide) (he : starEach (e :: es) X.env = (false, eval e X.env) :: starEach es X.env := by rfl) (hpl : (backTo pos (starEach es X.env)).any (·.1) = false := by rfl) :
    PD X (.Call (.Name x p) (e :: es) [] pos) (tCall (spD K S) [] E0 t) (dCall S da) := by
  obtain ⟨rfl, rfl, rfl, rfl, rfl⟩ := hX
  exact pd_call G hr hg hm hk hb ha hdb he hpl
theorem snd_meth (ho : Snd X.K to dO) (ha : SndA X.K t da) : Snd X.K (tMeth C mn (spD X.K S) [] E0 to t) (dMeth C mn S dO da) := ⟨fun σ H F m δ O R Q h en q fn => ho.go σ H F m δ O _ _ h en q fun v H1 F1 m1 a O1 s1 h1 r1 t1 => by
  obtain ⟨⟨C', gs⟩, e0, e1, e2, t2⟩ := t1.ex
  have e1' : C' = C := e1
  subst e1'
  obtain ⟨p, dx, fs, rfl, hp, rr⟩ := asI_rep h1 r1 e0
  refine ⟨p, dx, fs, rfl, hp, rr.look0 e2, ha.go σ H1 F1 m1 δ O1 _ _ h1 (en.mono s1) t2 fun vs H2 F2 m2 ds O2 s2 h2 r2 t3 => ?_⟩
  rw [List.append_nil]
  exact ⟨F2, m2, _, O2, R, .cons (r1.mono s2) r2, h2, t3, fn.mono (s1.trans s2)⟩⟩
theorem pd_meth {pl : Sem Bool} (ho : PD X o to dO) (c : Cls X.K C) (hm : Meth X.K C mn f) (G : FnD X.prog X.w X.K X.mg X.base k f fd ps S) (hr : Room k X.A) (hb : Binds X.K fd ps []) (ha : PDA X (e :: es) t da)
    (hst : starEach (e :: es) X.env = (false, eval e X.env) :: starEach es X.env := by rfl) (hpl : (backTo pos (starEach es X.env)).any (·.1) = false := by rfl)
    (ht : eval (.Call (.Attribute o mn apos) (e :: es) [] pos) X.env = (do
      let ov ← eval o X.env
      standAt apos.atName
      let (f, first) ← holding [ov] (getMethod ov mn pl)
      callWith pos f first (backTo pos (starEach (e :: es) X.env)) (backToKw pos (keywordEach [] X.env))) := by rfl) :
    PD X (.Call (.Attribute o mn apos) (e :: es) [] pos) (tMeth C mn (spD X.K S) [] E0 to t) (dMeth C mn S dO da) := ⟨pe_meth ho.pe c hm G hr hb .nil pass0 ha.pe hst hpl ht, snd_meth ho.sn ha.sn⟩
theorem pd_meth0 {pl : Sem Bool} (ho : PD X o to dO) (c : Cls X.K C) (hm : Meth X.K C mn f) (G : FnD X.prog X.w X.K X.mg X.base k f fd ps S) (hr : Room k X.A) (hb : Binds X.K fd ps [])
    (ht : eval (.Call (.Attribute o mn apos) [] [] pos) X.env = (do
      let ov ← eval o X.env
      standAt apos.atName
      let (f, first) ← holding [ov] (getMethod ov mn pl)
      callWith pos f first (backTo pos (starEach [] X.env)) (backToKw pos (keywordEach [] X.env))) := by rfl) :
    PD X (.Call (.Attribute o mn apos) [] [] pos) (tMeth C mn (spD X.K S) [] E0 to tNil) (dMeth C mn S dO dNil) := ⟨pe_meth0 ho.pe c hm G hr hb .nil pass0 ht, snd_meth ho.sn ⟨fun σ H F m δ O R Q h en t fn => fn [] H F m [] O .refl h .nil t⟩⟩
theorem snd_make (ha : SndA X.K t da) : Snd X.K (tMake C (spD X.K S) [] E0 t) (dMake C S da) := ⟨fun σ H F m δ O R Q h en q fn => ha.go σ H F m δ O _ _ h en q fun vs H1 F1 m1 ds O1 s1 h1 r1 t1 => by
  intro x dx nx ndx ne
  rw [List.append_nil]
  -- the instance's own dict is fixed, the instance may change
  obtain ⟨s2, h2⟩ := h1.frz (p := dx) (ho := .own x) ndx
  have nx' : L2.upd H1 dx (.own x) x = none := by rw [upd_ne (Ne.symm ne)]; exact nx
  obtain ⟨s3, h3⟩ := h2.new (p := x) (ho := .ins C dx []) (o := .ins C []) nx' (.ins .nil)
  have s13 := s2.trans s3
  refine ⟨_, _, _, _, fun d O2 => d = .non ∧ R (.own O1.length) O2, .cons (.own ?_) (r1.mono s13), h3, t1, fun v H4 F4 m4 d O4 s4 h4 r4 t4 => ?_⟩
  · rw [h1.len, List.getElem?_append_right (Nat.le_refl _), Nat.sub_self]
    rfl
  · obtain ⟨ed, t4⟩ := t4
    subst ed
    cases r4
    refine ⟨rfl, fn (.ref x) H4 F4 m4 _ O4 (s1.trans (s13.trans s4)) h4 (.own (pre_get s4.pre ?_)) t4⟩
    rw [h1.len, List.getElem?_append_right (Nat.le_refl _), Nat.sub_self]
    rfl⟩
theorem pd_make {fi : Addr} (M : Mk X.K C fi) (G : FnD X.prog X.w X.K X.mg X.base k fi fd ps S) (hr : Room (k + 1) X.A) (hg : Gl X x) (hm : X.mg x = some (.ref C)) (hb : Binds X.K fd ps [])
    (ha : PDA X (e :: es) t da) (hdb : (x == ("__debug__" : Str)) = false := by decide) (he : starEach (e :: es) X.env = (false, eval e X.env) :: starEach es X.env := by rfl) (hpl : (backTo pos (starEach es X.env)).any (·.1) = false := by rfl) :
    PD X (.Call (.Name x p) (e :: es) [] pos) (tMake C (spD X.K S) [] E0 t) (dMake C S da) := ⟨pe_make M G hr hg hm hb .nil pass0 ha.pe hdb he hpl, snd_make ha.sn⟩
end
/-! ### the things a caller holds, put in: at a name -/
/-- the last thing made is given up -/
def dGive (t : DE) : DE := fun δ O R => t δ O fun d O' => ∃ d', O'.take O.length = O ∧ Res O' O.length d d' ∧ R d' O
theorem snd_give {K : PySem.W.Frag} {te : TE} {t : DE} (h : Snd K te t) : Snd K te (dGive t) := ⟨fun σ H F m δ O R Q hh en q fn => h.go σ H F m δ O _ Q hh en q (fn.pure hh)⟩
theorem pd_give {X : Cx} {e : Expr} {te : TE} {t : DE} (h : PD X e te t) : PD X e te (dGive t) := ⟨h.pe, snd_give h.sn⟩
end DL

/-! DL, part g: methods of lists; zip; dicts with text keys; a name's list fixed. -/
namespace DL
open PySem L2

section
variable {K : PySem.W.Frag} {X : Cx} {o e : Expr} {to te : TE} {dO de : DE} {apos cpos pos : Pos}
/-! ### append, extend, clear, index -/
theorem tyV_lst {H : Hp} {p : Addr} {xs : List V} (h : H p = some (.lst xs)) : tyV K "list" (.ref p) H := .inl ⟨rfl, xs, SqL.of h⟩
def appD (O : Own) (a d : D) (R : D → Own → Prop) : Prop := match a with
  | .own h => match O[h]? with
    | some (some (.lst xs)) => xs.length < 100000 ∧ R .non (O.set h (some (.lst (xs ++ [d]))))
    | _ => False
  | _ => False
def dApp (ta td : DE) : DE := fun δ O R => ta δ O fun a O1 => oK (asL O1 a) fun _ => td δ O1 fun d O2 => appD O2 a d R
theorem pd_append (ho : PD X o to dO) (he : PD X e te de) (hbase : attributeBase o "append" X.env (eval o X.env) = eval o X.env := by rfl)
    (hfew : ((backTo cpos (starEach [e] X.env)).all (fun x => !x.1) && (backToKw cpos (keywordEach [] X.env)).all (fun x => x.1.isSome) && decide ([e].length + ([] : List Keyword).length + (if ([] : List Keyword).isEmpty then 0 else 1) < 30)) = true := by rfl)
    (hline : (apos.endLine == cpos.line) = true := by rfl) (hs : starEach [e] X.env = (false, eval e X.env) :: starEach [] X.env := by rfl) (hplain : (backTo cpos (starEach [] X.env)).any (·.1) = false := by rfl) :
    PD X (.Call (.Attribute o "append" apos) [e] [] cpos) (tBM X.K "list" rAppend to (tCons te tNil)) (dApp dO de) :=
  ⟨pe_bm PySem.F.plainAttrs_list PySem.F.slot_list_append PySem.F.type_list_append mt_append ho.pe (pa_cons he.pe pa_nil hs) hbase hfew hline hs hplain, ⟨fun σ H F m δ O R Q h en t fn => ho.sn.go σ H F m δ O _ _ h en t fun v H1 F1 m1 a O1 s1 h1 r1 t1 => by
    obtain ⟨ds, e0, t1⟩ := t1.ex
    obtain ⟨p, us, rfl, hp, rr⟩ := asL_rep h1 r1 e0
    refine ⟨tyV_lst hp, he.sn.go σ H1 F1 m1 δ O1 _ _ h1 (en.mono s1) t1 fun w H2 F2 m2 d O2 s2 h2 r2 t2 => ?_⟩
    unfold appD at t2
    split at t2
    · rename_i k
      split at t2
      · rename_i xs q
        have r3 := r1.mono s2
        cases r3 with
        | own q1 =>
          obtain ⟨hf, ho', e2, e3⟩ := h2.at_ q q1
          cases e3 with
          | @lst ws _ rw' =>
            obtain ⟨s3, h3⟩ := h2.upd q q1 (.lst (rw'.append (.cons r2 .nil)))
            exact ⟨p, ws, w, rfl, rfl, e2, sz5' (by rw [rw'.length]; exact t2.1), fn _ _ _ _ _ _ (s1.trans (s2.trans s3)) h3 .non t2.2⟩
      · exact t2.elim
    · exact t2.elim⟩⟩
def extD (O : Own) (a b : D) (R : D → Own → Prop) : Prop := match a with
  | .own h => match O[h]? with
    | some (some (.lst xs)) => oK (asL O b) fun ys => xs.length + ys.length ≤ 100000 ∧ R .non (O.set h (some (.lst (xs ++ ys))))
    | _ => False
  | _ => False
def dExt (ta td : DE) : DE := fun δ O R => ta δ O fun a O1 => oK (asL O1 a) fun _ => td δ O1 fun d O2 => extD O2 a d R
theorem pd_extend (ho : PD X o to dO) (he : PD X e te de) (hbase : attributeBase o "extend" X.env (eval o X.env) = eval o X.env := by rfl)
    (hfew : ((backTo cpos (starEach [e] X.env)).all (fun x => !x.1) && (backToKw cpos (keywordEach [] X.env)).all (fun x => x.1.isSome) && decide ([e].length + ([] : List Keyword).length + (if ([] : List Keyword).isEmpty then 0 else 1) < 30)) = true := by rfl)
    (hline : (apos.endLine == cpos.line) = true := by rfl) (hs : starEach [e] X.env = (false, eval e X.env) :: starEach [] X.env := by rfl) (hplain : (backTo cpos (starEach [] X.env)).any (·.1) = false := by rfl) :
    PD X (.Call (.Attribute o "extend" apos) [e] [] cpos) (tBM X.K "list" rExtend to (tCons te tNil)) (dExt dO de) :=
  ⟨pe_bm PySem.F.plainAttrs_list PySem.F.slot_list_extend PySem.F.type_list_extend mt_extend ho.pe (pa_cons he.pe pa_nil hs) hbase hfew hline hs hplain, ⟨fun σ H F m δ O R Q h en t fn => ho.sn.go σ H F m δ O _ _ h en t fun v H1 F1 m1 a O1 s1 h1 r1 t1 => by
    obtain ⟨ds, e0, t1⟩ := t1.ex
    obtain ⟨p, us, rfl, hp, rr⟩ := asL_rep h1 r1 e0
    refine ⟨tyV_lst hp, he.sn.go σ H1 F1 m1 δ O1 _ _ h1 (en.mono s1) t1 fun w H2 F2 m2 d O2 s2 h2 r2 t2 => ?_⟩
    unfold extD at t2
    split at t2
    · rename_i k
      split at t2
      · rename_i xs q
        obtain ⟨ys, ey, t2⟩ := t2.ex
        obtain ⟨b, zs, rfl, hb, rb⟩ := asL_rep h2 r2 ey
        have r3 := r1.mono s2
        cases r3 with
        | own q1 =>
          obtain ⟨hf, ho', e2, e3⟩ := h2.at_ q q1
          cases e3 with
          | @lst ws _ rw' =>
            obtain ⟨s3, h3⟩ := h2.upd q q1 (.lst (rw'.append rb))
            exact ⟨p, b, ws, zs, rfl, rfl, e2, hb, sz5 (by rw [rw'.length, rb.length]; exact t2.1), fn _ _ _ _ _ _ (s1.trans (s2.trans s3)) h3 .non t2.2⟩
      · exact t2.elim
    · exact t2.elim⟩⟩
def dClr (ta : DE) : DE := fun δ O R => ta δ O fun a O1 => match a with
  | .own h => match O1[h]? with
    | some (some (.lst _)) => R .non (O1.set h (some (.lst [])))
    | _ => False
  | _ => False
theorem pd_clear (ho : PD X o to dO) (hbase : attributeBase o "clear" X.env (eval o X.env) = eval o X.env := by rfl) (hline : (apos.endLine == cpos.line) = true := by rfl) :
    PD X (.Call (.Attribute o "clear" apos) [] [] cpos) (tBM0 X.K "list" rClear to) (dClr dO) :=
  ⟨pe_bm0 PySem.F.plainAttrs_list PySem.F.slot_list_clear PySem.F.type_list_clear mt_clear ho.pe hbase hline, ⟨fun σ H F m δ O R Q h en t fn => ho.sn.go σ H F m δ O _ _ h en t fun v H1 F1 m1 a O1 s1 h1 r1 t1 => by
    split at t1
    · rename_i k
      split at t1
      · rename_i xs q
        cases r1 with
        | @own _ p q1 =>
          obtain ⟨hf, ho', e2, e3⟩ := h1.at_ q q1
          cases e3 with
          | @lst ws _ rw' =>
            obtain ⟨s3, h3⟩ := h1.upd q q1 (.lst .nil)
            exact ⟨tyV_lst e2, p, ws, rfl, rfl, e2, fn _ _ _ _ _ _ (s1.trans s3) h3 .non t1⟩
      · exact t1.elim
    · exact t1.elim⟩⟩
def dIdx (ta td : DE) : DE := fun δ O R => ta δ O fun a O1 => oK (asL O1 a) fun _ => td δ O1 fun d O2 => oK (asL O2 a) fun xs => oK (intsD xs) fun ns => match d with
  | .int y => ∃ j : Nat, ns[j]? = some y ∧ (∀ i : Nat, i < j → ns[i]? ≠ some y) ∧ R (.int (j : Int)) O2
  | _ => False
theorem flat_ints : ∀ ns : List Int, (ns.map V.int).all flatV = true
  | [] => rfl
  | _ :: r => flat_ints r
theorem pd_index (ho : PD X o to dO) (he : PD X e te de) (hbase : attributeBase o "index" X.env (eval o X.env) = eval o X.env := by rfl)
    (hfew : ((backTo cpos (starEach [e] X.env)).all (fun x => !x.1) && (backToKw cpos (keywordEach [] X.env)).all (fun x => x.1.isSome) && decide ([e].length + ([] : List Keyword).length + (if ([] : List Keyword).isEmpty then 0 else 1) < 30)) = true := by rfl)
    (hline : (apos.endLine == cpos.line) = true := by rfl) (hs : starEach [e] X.env = (false, eval e X.env) :: starEach [] X.env := by rfl) (hplain : (backTo cpos (starEach [] X.env)).any (·.1) = false := by rfl) :
    PD X (.Call (.Attribute o "index" apos) [e] [] cpos) (tBM X.K "list" (rIndex X.K) to (tCons te tNil)) (dIdx dO de) :=
  ⟨pe_bm PySem.F.plainAttrs_list PySem.F.slot_list_index PySem.F.type_list_index mt_index ho.pe (pa_cons he.pe pa_nil hs) hbase hfew hline hs hplain, ⟨fun σ H F m δ O R Q h en t fn => ho.sn.go σ H F m δ O _ _ h en t fun v H1 F1 m1 a O1 s1 h1 r1 t1 => by
    obtain ⟨ds, e0, t1⟩ := t1.ex
    obtain ⟨p, us, rfl, hp, rr⟩ := asL_rep h1 r1 e0
    refine ⟨tyV_lst hp, he.sn.go σ H1 F1 m1 δ O1 _ _ h1 (en.mono s1) t1 fun w H2 F2 m2 d O2 s2 h2 r2 t2 => ?_⟩
    obtain ⟨xs, e1, t2⟩ := t2.ex
    obtain ⟨ns, e2, t2⟩ := t2.ex
    obtain ⟨p', ws, ep, hp', rr'⟩ := asL_rep h2 (r1.mono s2) e1
    cases ep
    rw [intsD_eq e2] at rr'
    rw [rr'.ints] at hp'
    cases r2 with
    | int y =>
      obtain ⟨j, j1, j2, t2⟩ := t2
      refine ⟨p, ns.map V.int, .int y, j, .int y, rfl, rfl, SqL.of hp', rfl, flat_ints ns, by rw [List.getElem?_map, j1]; rfl, by show (y == y) = true; exact beq_self_eq_true y, fun i z hi hz => ?_, (fn.mono (s1.trans s2)).here h2 (.int _) t2⟩
      rw [List.getElem?_map] at hz
      cases q : ns[i]? with
      | none => rw [q] at hz; cases hz
      | some n =>
        rw [q] at hz
        cases hz
        show (n == y) = false
        refine beq_false_of_ne fun z => j2 i hi ?_
        rw [q, z]
    | _ => exact t2.elim⟩⟩
/-! ### zip -/
def zipD : List D → List D → List D
  | a :: as, b :: bs => .tup [a, b] :: zipD as bs
  | _, _ => []
theorem zipD_get : ∀ {as bs : List D} {i : Nat} {d : D}, (zipD as bs)[i]? = some d → ∃ a b, as[i]? = some a ∧ bs[i]? = some b ∧ d = .tup [a, b]
  | [], _, i, d, h => by simp [zipD] at h
  | _ :: _, [], i, d, h => by simp [zipD] at h
  | a :: as, b :: bs, 0, d, h => by simp [zipD] at h; exact ⟨a, b, rfl, rfl, h.symm⟩
  | a :: as, b :: bs, i + 1, d, h => by
    obtain ⟨a', b', e1, e2, e3⟩ := zipD_get (i := i) (by simpa [zipD] using h)
    exact ⟨a', b', by simpa using e1, by simpa using e2, e3⟩
theorem zipD_length : ∀ (as bs : List D), (zipD as bs).length = min as.length bs.length
  | [], _ => by simp [zipD]
  | _ :: _, [] => by simp [zipD]
  | a :: as, b :: bs => by simp [zipD, zipD_length as bs]
def diZip (ta tb : DE) : DI := fun δ O R => ta δ O fun a O1 => tb δ O1 fun b O2 => oK (asL O2 a) fun xs => oK (asL O2 b) fun ys => R (zipD xs ys) (fun O' => asL O' a = some xs ∧ asL O' b = some ys) O2
theorem pdi_zip {e2 : Expr} {te2 : TE} {de2 : DE} {p pos tpos : Pos} {elts : List Expr} {kk : Nat} (hg : Gl X "zip") (hm : X.mg "zip" = none) (h : PD X e te de) (h2 : PD X e2 te2 de2)
    (hs : starEach [e, e2] X.env = (false, eval e X.env) :: starEach [e2] X.env := by rfl) (hs2 : starEach [e2] X.env = (false, eval e2 X.env) :: starEach [] X.env := by rfl) (hpl : (backTo pos (starEach [e2] X.env)).any (·.1) = false := by rfl) :
    PDI X (.Tuple elts kk tpos) (.Call (.Name "zip" p) [e, e2] [] pos) (L2.iZip X.K (tCons te (tCons te2 tNil))) (diZip de de2) := ⟨pi_zip hg hm (pa_cons h.pe (pa_cons h2.pe pa_nil hs2) hs) hs hpl, fun σ H F m δ O R Q hh en q f => h.sn.go σ H F m δ O _ _ hh en q fun v H1 F1 m1 a O1 s1 h1 r1 t1 =>
  h2.sn.go σ H1 F1 m1 δ O1 _ _ h1 (en.mono s1) t1 fun w H2 F2 m2 b O2 s2 h2' r2 t2 => by
    obtain ⟨xs, e1, t2⟩ := t2.ex
    obtain ⟨ys, e2', t2⟩ := t2.ex
    have r1' := r1.mono s2
    obtain ⟨p1, us, rfl, hp1, rr1⟩ := asL_rep h2' r1' e1
    obtain ⟨p2, ws, rfl, hp2, rr2⟩ := asL_rep h2' r2 e2'
    have now1 : ∀ {H' F' : Hp} {m' : List Addr} {O' : Own}, Sub F2 m2 F' m' → Hol X.K F' H' m' O' → asL O' a = some xs → ∃ ys, H' p1 = some (.lst ys) ∧ RepL X.K F' m' ys xs := fun s' h' e' => by
      obtain ⟨p', ys, ep, hp', rr'⟩ := asL_rep h' (Rep.mono0 s' r1') e'
      cases ep
      exact ⟨ys, hp', rr'⟩
    have now2 : ∀ {H' F' : Hp} {m' : List Addr} {O' : Own}, Sub F2 m2 F' m' → Hol X.K F' H' m' O' → asL O' b = some ys → ∃ zs, H' p2 = some (.lst zs) ∧ RepL X.K F' m' zs ys := fun s' h' e' => by
      obtain ⟨p', ys, ep, hp', rr'⟩ := asL_rep h' (Rep.mono0 s' r2) e'
      cases ep
      exact ⟨ys, hp', rr'⟩
    refine ⟨p1, p2, us, ws, rfl, SqL.of hp1, SqL.of hp2, f (Itz X.K p1 p2) H2 F2 m2 _ _ O2 (s1.trans s2) h2' ⟨fun i H' F' m' O' s' h' e' hi => ?_, fun i H' F' m' O' s' h' e' hi => ?_, fun i H' F' m' O' x H3 d s' h' e' hd y => ?_⟩ t2⟩
    · rw [zipD_length] at hi
      obtain ⟨us', hp1', rr1'⟩ := now1 s' h' e'.1
      obtain ⟨ws', hp2', rr2'⟩ := now2 s' h' e'.2
      have l1 := rr1'.length
      have l2 := rr2'.length
      exact ⟨us', ws', us'[i], ws'[i], SqL.of hp1', SqL.of hp2', List.getElem?_eq_getElem (by omega), List.getElem?_eq_getElem (by omega)⟩
    · rw [zipD_length] at hi
      obtain ⟨us', hp1', rr1'⟩ := now1 s' h' e'.1
      obtain ⟨ws', hp2', rr2'⟩ := now2 s' h' e'.2
      have l1 := rr1'.length
      have l2 := rr2'.length
      exact ⟨us', ws', SqL.of hp1', SqL.of hp2', by omega⟩
    · obtain ⟨us', hp1', rr1'⟩ := now1 s' h' e'.1
      obtain ⟨ws', hp2', rr2'⟩ := now2 s' h' e'.2
      obtain ⟨T, x1, x2, e3, n, e4, y1, y2⟩ := y
      subst e3 e4
      obtain ⟨d1, d2, g1, g2, g3⟩ := zipD_get hd
      subst g3
      obtain ⟨v1, k1, q1⟩ := rr1'.get g1
      obtain ⟨v2, k2, q2⟩ := rr2'.get g2
      have z1 := y1 us' (SqL.of hp1')
      have z2 := y2 ws' (SqL.of hp2')
      rw [k1] at z1
      rw [k2] at z2
      cases z1
      cases z2
      obtain ⟨s3, h3⟩ := h'.frz (ho := .tup [x1, x2]) n
      exact ⟨_, s3, h3, .tup upd_same (.cons (q1.mono s3) (.cons (q2.mono s3) .nil))⟩⟩
/-! ### dicts with text keys -/
theorem RepK.look {F : Hp} {m : List Addr} {f : Str} {d : D} {vs : List (Key × V)} {gs : List (Str × D)} (h : RepK K F m vs gs) (e : gs.lookup f = some d) : ∃ v, valV vs (Sum.inr f : Key) = some v ∧ Rep K F m v d := by
  induction h with
  | nil => simp at e
  | @cons n v d0 vs gs r t ih =>
    by_cases q : f = n
    · subst q
      rw [List.lookup_cons_self] at e
      cases e
      exact ⟨v, valV_pos rfl, r⟩
    · have b : (f == n) = false := beq_false_of_ne q
      rw [List.lookup_cons, b] at e
      obtain ⟨u, e1, r1⟩ := ih e
      exact ⟨u, by rw [valV_neg (fun z : (Sum.inr n : Key) = Sum.inr f => q (Sum.inr.inj z).symm)]; exact e1, r1⟩
def putK' (f : Str) (d : D) (gs : List (Str × D)) : List (Str × D) := if (gs.any fun g => decide (g.1 = f)) = true then gs.map (fun g => if g.1 = f then (g.1, d) else g) else gs ++ [(f, d)]
theorem RepK.any {F : Hp} {m : List Addr} {f : Str} {vs : List (Key × V)} {gs : List (Str × D)} (h : RepK K F m vs gs) : (vs.any fun kv => decide (kv.1 = (Sum.inr f : Key))) = gs.any fun g => decide (g.1 = f) := by
  induction h with
  | nil => rfl
  | @cons n v d0 vs gs r t ih =>
    rw [List.any_cons, List.any_cons, ih]
    congr 1
    by_cases q : n = f
    · subst q; simp
    · rw [decide_eq_false q, decide_eq_false (fun z : (Sum.inr n : Key) = Sum.inr f => q (Sum.inr.inj z))]
theorem RepK.append {F : Hp} {m : List Addr} {vs ws : List (Key × V)} {gs hs : List (Str × D)} (h : RepK K F m vs gs) (g : RepK K F m ws hs) : RepK K F m (vs ++ ws) (gs ++ hs) := by
  induction h with
  | nil => exact g
  | cons r t ih => exact .cons r ih
theorem RepK.map {F : Hp} {m : List Addr} {f : Str} {v : V} {d : D} (r : Rep K F m v d) {vs : List (Key × V)} {gs : List (Str × D)} (h : RepK K F m vs gs) :
    RepK K F m (vs.map fun kv => if kv.1 = (Sum.inr f : Key) then (kv.1, v) else kv) (gs.map fun g => if g.1 = f then (g.1, d) else g) := by
  induction h with
  | nil => exact .nil
  | @cons n v0 d0 vs gs r0 t ih =>
    rw [List.map_cons, List.map_cons]
    by_cases q : n = f
    · subst q
      rw [if_pos rfl, if_pos rfl]
      exact .cons r ih
    · rw [if_neg (fun z : (Sum.inr n : Key) = Sum.inr f => q (Sum.inr.inj z)), if_neg q]
      exact .cons r0 ih
theorem RepK.put {F : Hp} {m : List Addr} {f : Str} {v : V} {d : D} (r : Rep K F m v d) {vs : List (Key × V)} {gs : List (Str × D)} (h : RepK K F m vs gs) : RepK K F m (putK vs (Sum.inr f : Key) v) (putK' f d gs) := by
  unfold putK putK'
  rw [h.any]
  split
  · exact h.map r
  · exact h.append (.cons r .nil)
theorem RepK.length {F : Hp} {m : List Addr} {vs : List (Key × V)} {gs : List (Str × D)} (h : RepK K F m vs gs) : vs.length = gs.length := by
  induction h with
  | nil => rfl
  | cons r t ih => rw [List.length_cons, List.length_cons, ih]
def dDGet (ta tk : DE) : DE := fun δ O R => ta δ O fun a O1 => tk δ O1 fun k O2 => match a, k with
  | .own h, .str s => match O2[h]? with
    | some (some (.dic gs)) => oK (gs.lookup s) fun d => R d O2
    | _ => False
  | _, _ => False
theorem pd_dget {i : Expr} {ti : TE} {di : DE} (hu : X.A.units + 1 < cLine) (ho : PD X o to dO) (hi : PD X i ti di) (hs : NoSl i) : PD X (.Subscript o i pos) (tDGet to ti) (dDGet dO di) := ⟨pe_dget hu ho.pe hi.pe hs, ⟨fun σ H F m δ O R Q h en t fn => ho.sn.go σ H F m δ O _ _ h en t fun v H1 F1 m1 a O1 s1 h1 r1 t1 =>
  hi.sn.go σ H1 F1 m1 δ O1 _ _ h1 (en.mono s1) t1 fun y H2 F2 m2 k O2 s2 h2 r2 t2 => by
    have r3 := r1.mono s2
    split at t2
    · rename_i h s
      split at t2
      · rename_i gs q
        obtain ⟨d, e1, t2⟩ := t2.ex
        cases r2
        cases r3 with
        | @own _ p q1 =>
          obtain ⟨hf, ho', e2, e3⟩ := h2.at_ q q1
          cases e3 with
          | @dic kvs _ rk =>
            obtain ⟨u, e4, r4⟩ := rk.look e1
            exact ⟨p, u, rfl, .inl ⟨kvs, Sum.inr s, .inl e2, rfl, e4.symm⟩, (fn.mono (s1.trans s2)).here h2 r4 t2⟩
      · exact t2.elim
    · exact t2.elim⟩⟩
def dsDPut (ta tk tv : DE) : DS := fun E δ O => tv δ O fun d O1 => ta δ O1 fun a O2 => tk δ O2 fun k O3 => match a, k with
  | .own h, .str s => match O3[h]? with
    | some (some (.dic gs)) => gs.length < 1000 ∧ E.nx δ (O3.set h (some (.dic (putK' s d gs))))
    | _ => False
  | _, _ => False
theorem pds_dput {i value : Expr} {ti tv : TE} {di dv : DE} {pos' : Pos} (hu : X.A.units + 1 < cLine) (ho : PD X o to dO) (hi : PD X i ti di) (hv : PD X value tv dv) (hs : swapsWith value (some (.Subscript o i pos')) pos.line X.env = pure false := by rfl) :
    PDS X (.Assign [.Subscript o i pos'] value pos) (sDPut to ti tv) (dsDPut dO di dv) := ⟨ps_dput hu ho.pe hi.pe hv.pe hs, ⟨fun σ H F m δ O E D h en t fn => hv.sn.go σ H F m δ O _ _ h en t fun w H1 F1 m1 d O1 s1 h1 r1 t1 =>
  ho.sn.go σ H1 F1 m1 δ O1 _ _ h1 (en.mono s1) t1 fun v H2 F2 m2 a O2 s2 h2 r2 t2 => hi.sn.go σ H2 F2 m2 δ O2 _ _ h2 (en.mono (s1.trans s2)) t2 fun y H3 F3 m3 k O3 s3 h3 r3 t3 => by
    have r4 := r2.mono s3
    split at t3
    · rename_i h s
      split at t3
      · rename_i gs q
        cases r3
        cases r4 with
        | @own _ p q1 =>
          obtain ⟨hf, ho', e2, e3⟩ := h3.at_ q q1
          cases e3 with
          | @dic kvs _ rk =>
            obtain ⟨s4, h4⟩ := h3.upd q q1 (.dic (rk.put (f := s) (r1.mono (s2.trans s3))))
            have s14 := s1.trans (s2.trans (s3.trans s4))
            exact ⟨p, _, rfl, DPut.k (k := Sum.inr s) e2 (sz5' (by rw [rk.length]; have := t3.1; omega)), fn.nx _ _ _ _ _ _ s14 h4 (en.mono s14) t3.2⟩
      · exact t3.elim
    · exact t3.elim⟩⟩
/-- a written dict -/
structure PDPs (X : Cx) (pos : Pos) (keys : List (Option Expr)) (values : List Expr) (trs : List (TE × TE)) (ks : List Str) (das : DA) : Prop where
  pe : PPs X pos keys values trs
  sn : ∀ (σ : L2.St) (H F : Hp) (m : List Addr) (δ : DSt) (O : Own) (R : List D → Own → Prop) (Q : List (V × V) → Hp → Prop), Hol X.K F H m O → EnvR X.K F m σ δ → das δ O R →
    (∀ vs H' F' m' ds O', vs.length = ks.length → Stp F H m F' H' m' → Hol X.K F' H' m' O' → RepL X.K F' m' vs ds → R ds O' → Q ((ks.map V.str).zip vs) H') → tPairs trs σ H Q
theorem pdps_nil : PDPs X pos [] [] [] [] dNil := ⟨pps_nil, fun σ H F m δ O R Q h en t fn => fn [] H F m [] O rfl .refl h .nil t⟩
theorem pdps_cons {k : Str} {j : Nat} {p : Pos} {v : Expr} {ks : List (Option Expr)} {vs : List Expr} {tv : TE} {dv : DE} {trs : List (TE × TE)} {ss : List Str} {das : DA} (hv : PD X v tv dv) (hr : PDPs X pos ks vs trs ss das) :
    PDPs X pos (some (.Constant (.str k) j p) :: ks) (v :: vs) ((tC (.str k), tv) :: trs) (k :: ss) (dCons dv das) := ⟨pps_cons pe_str hv.pe hr.pe, fun σ H F m δ O R Q h en t fn => hv.sn.go σ H F m δ O _ _ h en t fun x H1 F1 m1 d O1 s1 h1 r1 t1 =>
  hr.sn σ H1 F1 m1 δ O1 _ _ h1 (en.mono s1) t1 fun us H2 F2 m2 ds O2 hl s2 h2 r2 t2 => fn (x :: us) H2 F2 m2 (d :: ds) O2 (by rw [List.length_cons, List.length_cons, hl]) (s1.trans s2) h2 (.cons (r1.mono s2) r2) t2⟩
def dDisp (ks : List Str) (das : DA) : DE := fun δ O R => das δ O fun ds O1 => R (.own O1.length) (O1 ++ [some (.dic (ks.zip ds))])
theorem merge_nodup : ∀ (more kvs : List (Key × V)), ((kvs ++ more).map (·.1)).Nodup → mergeK kvs more = kvs ++ more
  | [], kvs, _ => (List.append_nil kvs).symm
  | kv :: more, kvs, h => by
    have hn : valV kvs kv.1 = none := by
      cases e : valV kvs kv.1 with
      | none => rfl
      | some u =>
        exfalso
        unfold valV at e
        cases q : kvs.find? fun p => decide (p.1 = kv.1) with
        | none => rw [q] at e; cases e
        | some p =>
          have h1 := List.mem_of_find?_eq_some q
          have h2 : p.1 = kv.1 := by simpa using List.find?_some q
          rw [List.map_append, List.nodup_append] at h
          exact h.2.2 p.1 (List.mem_map_of_mem h1) kv.1 (by simp) h2
    show mergeK (putK kvs kv.1 kv.2) more = _
    rw [putK_new _ hn]
    have e : kvs ++ kv :: more = (kvs ++ [(kv.1, kv.2)]) ++ more := by simp
    rw [e] at h ⊢
    exact merge_nodup more _ h
theorem zip_map_str : ∀ (ks : List Str) (vs : List V), (ks.map V.str).zip vs = (((ks.map fun k => (Sum.inr k : Key)).zip vs).map fun kv => (kV kv.1, kv.2))
  | [], _ => rfl
  | _ :: _, [] => rfl
  | k :: ks, v :: vs => by
    exact congrArg (List.cons (V.str k, v)) (zip_map_str ks vs)
theorem repK_zip {F : Hp} {m : List Addr} : ∀ {ks : List Str} {vs : List V} {ds : List D}, RepL K F m vs ds → RepK K F m ((ks.map fun k => (Sum.inr k : Key)).zip vs) (ks.zip ds)
  | [], _, _, _ => .nil
  | _ :: _, _, _, .nil => .nil
  | _ :: _, _, _, .cons r t => .cons r (repK_zip t)
theorem pd_disp {keys : List (Option Expr)} {values : List Expr} {trs : List (TE × TE)} {ks : List Str} {das : DA} (h : PDPs X pos keys values trs ks das) (hall : keys.all (·.isSome) = true) (hl : keys.length = values.length) (h0 : keys ≠ []) (h15 : keys.length ≤ 15)
    (hk : ks.length ≤ 15) (nd : ks.Nodup) : PD X (.Dict keys values pos) (tDisp trs) (dDisp ks das) := ⟨pe_disp h.pe hall hl h0 h15, ⟨fun σ H F m δ O R Q hh en t fn => by
  intro L hL
  have fL : F L = none := by
    cases z : F L with
    | none => rfl
    | some u => have := hh.ex L u z; rw [hL] at this; cases this
  have mL : L ∉ m := fun z => by obtain ⟨u, e⟩ := hh.th L z; rw [hL] at e; cases e
  have h1 : Hol X.K F (L2.upd H L (.dK [])) m O := by
    refine ⟨fun p u z => ?_, hh.nd, fun p hp => ?_, hh.len, fun k u e => ?_⟩
    · rw [upd_ne (ne_of_none z fL)]; exact hh.ex p u z
    · obtain ⟨u, hu⟩ := hh.th p hp
      exact ⟨u, by rw [upd_ne (ne_of_none hu hL)]; exact hu⟩
    · obtain ⟨p, ho', e1, e2, e3, e4⟩ := hh.own k u e
      exact ⟨p, ho', e1, e2, by rw [upd_ne (ne_of_none e3 hL)]; exact e3, e4⟩
  refine h.sn σ _ F m δ O _ _ h1 en t fun vs H2 F2 m2 ds O2 hlen s2 h2 r2 t2 => ?_
  have f2 : F2 L = none := s2.nf L _ upd_same mL fL
  have n2 : L ∉ m2 := fun z => by
    have q := s2.nw L z mL
    rw [upd_same] at q
    cases q
  have l2 : H2 L = some (.dK []) := s2.fr L _ upd_same mL
  refine ⟨l2, (ks.map fun k => (Sum.inr k : Key)).zip vs, zip_map_str ks vs, by rw [List.length_zip, List.length_map]; omega, ?_⟩
  have nd' : (([] ++ (ks.map fun k => (Sum.inr k : Key)).zip vs : List (Key × V)).map (·.1)).Nodup := by
    rw [List.nil_append]
    have e : ((((ks.map fun k => (Sum.inr k : Key)).zip vs : List (Key × V))).map (·.1)) = ks.map fun k => (Sum.inr k : Key) := by
      exact List.map_fst_zip (by rw [List.length_map, hlen]; exact Nat.le_refl _)
    rw [e]
    exact List.Pairwise.map _ (fun a b h z => h (Sum.inr.inj z)) nd
  rw [merge_nodup _ _ nd', List.nil_append]
  -- the state without L, then L as a new thing
  have hd : Hol X.K F2 (fun a => if a = L then none else H2 a) m2 O2 := by
    refine ⟨fun p u z => ?_, h2.nd, fun p hp => ?_, h2.len, fun k u e => ?_⟩
    · simp only [if_neg (ne_of_none z f2)]; exact h2.ex p u z
    · obtain ⟨u, hu⟩ := h2.th p hp
      exact ⟨u, by simp only [if_neg (fun z : p = L => n2 (by rw [← z]; exact hp))]; exact hu⟩
    · obtain ⟨p, ho', e1, e2, e3, e4⟩ := h2.own k u e
      exact ⟨p, ho', e1, e2, by simp only [if_neg (fun z : p = L => n2 (by rw [← z]; exact List.mem_of_getElem? e1))]; exact e3, e4⟩
  have sd : Stp F H m F2 (fun a => if a = L then none else H2 a) m2 := by
    refine ⟨s2.ex, s2.pre, fun a o z nm => ?_, fun a z nm => ?_, fun a o z nm fz => ?_⟩
    · have ne : a ≠ L := fun e => by rw [e, hL] at z; cases z
      simp only [if_neg ne]
      exact s2.fr a o (by rw [upd_ne ne]; exact z) nm
    · have q := s2.nw a z nm
      by_cases e : a = L
      · rw [e]; exact hL
      · rw [upd_ne e] at q; exact q
    · have ne : a ≠ L := fun e => by rw [e, hL] at z; cases z
      exact s2.nf a o (by rw [upd_ne ne]; exact z) nm fz
  obtain ⟨s3, h3⟩ := hd.new (p := L) (ho := .dK ((ks.map fun k => (Sum.inr k : Key)).zip vs)) (o := .dic (ks.zip ds)) (by simp) (.dic (repK_zip r2))
  have eq : L2.upd (fun a => if a = L then none else H2 a) L (.dK ((ks.map fun k => (Sum.inr k : Key)).zip vs)) = L2.upd H2 L (.dK ((ks.map fun k => (Sum.inr k : Key)).zip vs)) := by
    funext b
    by_cases z : b = L
    · rw [z, upd_same, upd_same]
    · rw [upd_ne z, upd_ne z]; simp only [if_neg z]
  rw [eq] at s3 h3
  refine fn (.ref L) _ F2 _ _ _ (sd.trans s3) h3 (.own ?_) t2
  rw [h2.len, List.getElem?_append_right (Nat.le_refl _), Nat.sub_self]
  rfl⟩⟩
/-! ### a name's list, that no one changes from here on -/
def dFix (i : Nat) (t : DS) : DS := fun E δ O => match δ[i]? with
  | some (some (.own h)) => match O[h]? with
    | some (some (.lst ds)) => t E (δ.set i (some (.lst ds))) (O.set h none)
    | _ => False
  | _ => False
theorem pdss_fix {rest : List Stmt} {u : TS} {du : DS} (i : Nat) (hr : PDSs X rest u du) : PDSs X rest u (dFix i du) := ⟨hr.pe, ⟨fun σ H F m δ O E D h en t fn => by
  unfold dFix at t
  split at t
  · rename_i k q
    split at t
    · rename_i ds q'
      obtain ⟨v, e1, r1⟩ := en.at_ i _ q
      cases r1 with
      | @own _ p q1 =>
        obtain ⟨hf, ho', e2, e3⟩ := h.at_ q' q1
        cases e3 with
        | @lst ws _ rw' =>
          have hx : ∀ a o, F a = some o → L2.upd F p (.lst ws) a = some o := fun a o z => by rw [upd_ne (ne_of_none z hf)]; exact z
          have sb : Sub F m (L2.upd F p (.lst ws)) m := ⟨hx, List.prefix_refl _⟩
          have hm : p ∈ m := List.mem_of_getElem? q1
          have s : Stp F H m (L2.upd F p (.lst ws)) H m := ⟨hx, List.prefix_refl _, fun _ _ z _ => z, fun _ z n => absurd z n, fun a o z n f => by
            rw [upd_ne (fun e => n (by rw [e]; exact hm))]; exact f⟩
          have h' : Hol X.K (L2.upd F p (.lst ws)) H m (O.set k none) := by
            refine ⟨fun a o z => ?_, h.nd, h.th, by rw [List.length_set]; exact h.len, fun j o e => ?_⟩
            · by_cases y : a = p
              · subst y; rw [upd_same] at z; cases z; exact e2
              · rw [upd_ne y] at z; exact h.ex a o z
            · have nj : k ≠ j := fun y => by
                subst y
                rw [List.getElem?_set_self (List.getElem?_eq_some_iff.mp q').1] at e
                cases e
              rw [List.getElem?_set_ne nj] at e
              obtain ⟨a, ho2, g1, g2, g3, g4⟩ := h.own j o e
              have na : a ≠ p := fun y => by
                subst y
                obtain ⟨p1, z1⟩ := List.getElem?_eq_some_iff.mp g1
                obtain ⟨p2, z2⟩ := List.getElem?_eq_some_iff.mp q1
                exact nj ((List.getElem_inj h.nd).mp (z2.trans z1.symm))
              exact ⟨a, ho2, g1, by rw [upd_ne na]; exact g2, g3, g4.mono s⟩
          have en' : EnvR X.K (L2.upd F p (.lst ws)) m σ (δ.set i (some (.lst ds))) := by
            have e0 := (en.mono s).set i (v := .ref p) (d := .lst ds) (.lst upd_same (rw'.mono s))
            have es : σ.set i (some (V.ref p)) = σ := by
              have hi := (List.getElem?_eq_some_iff.mp e1)
              obtain ⟨hi, ei⟩ := hi
              rw [← ei]
              exact List.set_getElem_self hi
            rw [es] at e0
            exact e0
          exact hr.sn.go σ H _ m _ _ E D h' en' t (fn.mono s)
    · exact t.elim
  · exact t.elim⟩⟩
end
end DL

/-! DL, part z: zip of a tuple and a list. -/
namespace DL
namespace ZM
open PySem PySem.Spec PyProof.Rows L2
open PySem.Sem (wp)

theorem tupDraws {prog : Program} {w : World} {A : Around} (hh : A.handled = none) {it a : Addr} (ne : a ≠ it) (us : Array Value) :
    Draws prog w A it [it, a] us.size (fun i v => us[i]? = some v) (fun i h => h.IsTupleIter it a i ∧ h.IsTuple a us) := by
  refine ⟨fun i h st => ?_, fun i h h' st k => ?_, fun i s Q E hi st g => ?_, fun s Q E st g => ?_⟩
  · obtain ⟨o, e, _⟩ := st.1
    exact ⟨o, e⟩
  · obtain ⟨s1, o, e, r⟩ := st
    exact ⟨s1.at fun o q => k it (List.mem_cons_self) o q, o, k a (by simp) o e, r⟩
  · have hx : us[i]? = some us[i] := by simp [hi]
    refine RZ.nextOf_tuple_item st.1 st.2 hx fun h1 st1 sb => ?_
    refine g _ h1 s.toks hx ⟨st1, ?_⟩ sb
    obtain ⟨o, e, r⟩ := st.2
    exact ⟨o, (sb.2 a ne).trans e, r⟩
  · exact RZ.nextOf_tuple_end hh st.1 st.2 (by simp) g
def ItM (K : PySem.W.Frag) (a b : Addr) : It where
  go := fun i H => ∃ (xs ys : List V) (x y : V), SqT K H a xs ∧ SqL K H b ys ∧ xs[i]? = some x ∧ ys[i]? = some y
  yld := fun i H v H' => ∃ T x y, v = .ref T ∧ H T = none ∧ H' = L2.upd H T (.tup [x, y]) ∧ (∀ xs, SqT K H a xs → xs[i]? = some x) ∧ ∀ ys, SqL K H b ys → ys[i]? = some y
  stop := fun i H => ∃ xs ys : List V, SqT K H a xs ∧ SqL K H b ys ∧ (xs.length ≤ i ∨ ys.length ≤ i) ∧ i ≤ xs.length ∧ i ≤ ys.length
theorem sep {z TI TO i1 i2 a b : Addr} (D : ZipApart z TI TO i1 i2 a b) : ZipSep2 z TI TO i1 i2 [i1, a] [i2, b] where
  TIz := D.TIz
  TOz := D.TOz
  TITO := D.TITO
  TIi1 := D.TIi1
  TIi2 := D.TIi2
  mem1 := List.mem_cons_self
  mem2 := List.mem_cons_self
  zf1 := by simp [Ne.symm D.i1z, Ne.symm D.l1z]
  zf2 := by simp [Ne.symm D.i2z, Ne.symm D.l2z]
  Tf1 := by simp [D.TOi1, Ne.symm D.l1TO]
  Tf2 := by simp [D.TOi2, Ne.symm D.l2TO]
  sep1_2 := by simp [D.i12, Ne.symm D.l2i1]
  sep2_1 := by simp [Ne.symm D.i12, Ne.symm D.l1i2]
def tnM (z TI TO i1 i2 a b : Addr) (i : Nat) (h : Heap) : Prop := IsZip h z TI TO .none ∧ IsTupOf2 h TI (.ref i1) (.ref i2) ∧ (∃ x y, IsTupOf2 h TO x y) ∧ h.IsTupleIter i1 a i ∧ h.IsListIter i2 b i
theorem mem5 {c z TI TO i1 i2 : Addr} : c ∈ [z, TI, TO, i1, i2] ↔ c = z ∨ c = TI ∨ c = TO ∨ c = i1 ∨ c = i2 := by simp
theorem turnM {P : Program} {w : World} {K : PySem.W.Frag} {elts : List Expr} {kk : Nat} {tpos : Pos} {a b z TI TO i1 i2 : Addr} (D : ZipApart z TI TO i1 i2 a b) :
    Turn P w K (.Tuple elts kk tpos) (ItM K a b) [z, TI, TO, i1, i2] z (tnM z TI TO i1 i2 a b) := by
  have live : ∀ {i : Nat} {h : Heap}, tnM z TI TO i1 i2 a b i h → ∀ c ∈ [z, TI, TO, i1, i2], ∃ o, h.get? c = some o ∧ ∀ v, o.data ≠ .cell v := by
    rintro i h ⟨g1, g2, ⟨x, y, g3⟩, ⟨o4, g4, _, d4⟩, ⟨o5, g5, _, d5⟩⟩ c hc
    rcases mem5.mp hc with e | e | e | e | e <;> subst e
    · exact ⟨_, g1, fun v q => nomatch q⟩
    · exact ⟨_, g2, fun v q => nomatch q⟩
    · exact ⟨_, g3, fun v q => nomatch q⟩
    · exact ⟨o4, g4, fun v q => by rw [d4] at q; cases q⟩
    · exact ⟨o5, g5, fun v q => by rw [d5] at q; cases q⟩
  refine ⟨List.mem_cons_self, fun i h st c hc => live st c hc, fun i h h' st k => ?_, ?_, ?_, fun A i s Q E st g => wpAny_pyIter_zip st.1 g⟩
  · obtain ⟨g1, g2, ⟨x, y, g3⟩, g4, g5⟩ := st
    exact ⟨k _ (by simp) _ g1, k _ (by simp) _ g2, ⟨x, y, k _ (by simp) _ g3⟩, g4.at fun o q => k _ (by simp) o q, g5.at fun o q => k _ (by simp) o q⟩
  · intro X eP eW eK hc i pins s σ H E I hf st hg
    subst eP eW eK
    have lv := live st
    obtain ⟨g1, g2, ⟨x0, y0, g3⟩, g4, g5⟩ := st
    obtain ⟨xs, ys, x, y, qx, qy, hx, hy⟩ := hg
    obtain ⟨us, ru, tu, _⟩ := I.tuple qx
    obtain ⟨ws, rw', pl, _⟩ := I.list qy
    obtain ⟨u, hu, rux⟩ := ru.get hx
    obtain ⟨v, hv, rvy⟩ := rw'.get hy
    have hd : X.A.in1.handled = none := I.ok.hd hc
    have lu : i < us.toArray.size := by simpa using (List.getElem?_eq_some_iff.mp hu).1
    have lw : i < ws.toArray.size := by simpa using (List.getElem?_eq_some_iff.mp hv).1
    refine wpAny_pyNext_zipD2_item (sep D) (tupDraws hd D.l1i1 us.toArray) (Draws.list hd i2 b D.l2i2 ws.toArray) g1 g2 g3 ⟨g4, tu⟩ ⟨g5, pl.isList⟩ lu lw fun x1 x2 h1 tk p1 p2 z1 t1 st1 st2 nw sz kp => ?_
    have e1 : u = x1 := by
      have p1' : us[i]? = some x1 := by simpa using p1
      rw [hu] at p1'; cases p1'; rfl
    have e2 : v = x2 := by
      have p2' : ws[i]? = some x2 := by simpa using p2
      rw [hv] at p2'; cases p2'; rfl
    subst e1 e2
    refine ⟨_, rfl, wpAny_letOwnedTupleGo_zip (s := { s with heap := h1, toks := tk }) z1 fun h2 z2 sb => ?_⟩
    have lt : ∀ {c : Addr}, c ∈ [z, TI, TO, i1, i2] → c < s.heap.objs.size := fun hc => by
      obtain ⟨o, e, _⟩ := lv _ hc
      exact Heap.lt_size e
    have nz : s.heap.objs.size ≠ z := Nat.ne_of_gt (lt (by simp))
    have nwT : h2.get? s.heap.objs.size = some { cls := .type "tuple", data := .seq #[u, v] } := (sb.2 _ nz).trans nw
    have ok : ObjOk X.prog X.w (L2.upd H s.heap.objs.size (.tup [x, y])) h2 s.heap.objs.size (.tup [x, y]) :=
      ⟨by show 2 ≤ sizeLine; decide, [u, v], .cons rux (.cons rvy .nil), _, nwT, rfl, _, rfl⟩
    have kp2 : ∀ c o, c ∉ [z, TI, TO, i1, i2] → s.heap.get? c = some o → h2.get? c = some o := fun c o hn q => by
      have n := fun w => hn (mem5.mpr w)
      rw [sb.2 c fun e => n (.inl e)]
      exact kp c o (fun e => n (.inl e)) (fun e => n (.inr (.inr (.inl e)))) (fun e => n (.inr (.inr (.inr (.inl e))))) (fun e => n (.inr (.inr (.inr (.inr e))))) q
    have J : Inv X pins σ (L2.upd H s.heap.objs.size (.tup [x, y])) { s with heap := h2, toks := tk } := I.turnedNew kp2 hf (Nat.le_refl _) ok
    refine ⟨.ref s.heap.objs.size, _, J, rfl, ⟨_, x, y, rfl, I.hok.fresh (Nat.le_refl _), rfl, fun l hl => ?_, fun l hl => ?_⟩, ⟨z2, ?_, ⟨u, v, (sb.2 _ D.TOz).trans t1⟩, st1.1.at fun o q => (sb.2 _ D.i1z).trans q, st2.1.at fun o q => (sb.2 _ D.i2z).trans q⟩, fun c hcm => ?_⟩
    · rw [I.tuple_inj hl qx]; exact hx
    · rw [I.list_inj hl qy]; exact hy
    · exact (sb.2 _ D.TIz).trans (kp _ _ D.TIz D.TITO D.TIi1 D.TIi2 g2)
    · rw [upd_ne (Nat.ne_of_lt (lt hcm))]
      exact (hf c hcm).1
  · intro X eP eW eK hc i pins s σ H E I hf st hg
    subst eP eW eK
    obtain ⟨g1, g2, ⟨x0, y0, g3⟩, g4, g5⟩ := st
    obtain ⟨xs, ys, qx, qy, he, hx, hy⟩ := hg
    obtain ⟨us, ru, tu, _⟩ := I.tuple qx
    obtain ⟨ws, rw', pl, _⟩ := I.list qy
    have l1 := ru.length
    have l2 := rw'.length
    have hd : X.A.in1.handled = none := I.ok.hd hc
    have s1 : us.toArray.size = us.length := by simp
    have s2 : ws.toArray.size = ws.length := by simp
    refine wpAny_pyNext_zipD2_end (sep D) (tupDraws hd D.l1i1 us.toArray) (Draws.list hd i2 b D.l2i2 ws.toArray) g1 g2 g3 ⟨g4, tu⟩ ⟨g5, pl.isList⟩ (by omega) (by omega) (by omega) fun h1 tk kp => ⟨rfl, ?_⟩
    exact I.turnedL (ch := [z, TI, TO, i1, i2]) (fun c o hn q => by
      have n := fun w => hn (mem5.mpr w)
      exact kp c o (fun e => n (.inl e)) (fun e => n (.inr (.inr (.inl e)))) (fun e => n (.inr (.inr (.inr (.inl e))))) (fun e => n (.inr (.inr (.inr (.inr e))))) q) hf
/-! ### its making -/
def hp1 (h : Heap) (a : Addr) : Heap := h.push { cls := .type "tuple_iterator", data := .fields #[.ref a, .int 0 0] }
def hp2 (h : Heap) (a b : Addr) : Heap := (hp1 h a).push { cls := .type "list_iterator", data := .fields #[.ref b, .int 0 0] }
def hp3 (h : Heap) (a b : Addr) : Heap := (hp2 h a b).push { cls := .type "tuple", data := .seq #[.ref h.objs.size, .ref (hp1 h a).objs.size] }
def hp4 (h : Heap) (a b : Addr) : Heap := (hp3 h a b).push { cls := .type "tuple", data := .seq #[.none, .none] }
def hp5 (h : Heap) (a b : Addr) : Heap := (hp4 h a b).push { cls := .type "zip", data := .fields #[.none, .bool false, .bool false, .ref (hp2 h a b).objs.size, .ref (hp3 h a b).objs.size] }
theorem newM (a b : Addr) (us ws : Array Value) : Meets (Builtin.«zip.__new__» ⟨[.type "zip", .ref a, .ref b], []⟩)
    (fun _ R s => s.heap.IsTuple a us ∧ s.heap.IsList b ws ∧ R (.ok (.ret (.ref (hp4 s.heap a b).objs.size))) { s with heap := hp5 s.heap a b }) :=
  .of_wp fun prog w A R s hq => by
    obtain ⟨h, g, d, tk, os⟩ := s
    obtain ⟨q1, q2, q3⟩ := hq
    have sz := sub_zip
    have y1 : Heap.IsTuple (Shared.heap ⟨h, g, d, tk, os⟩) a us := q1
    have y2 : Heap.IsList (Shared.heap ⟨h.push { cls := .type "tuple_iterator", data := .fields #[.ref a, .int 0 0] }, g, d, tk, os⟩) b ws := Heap.IsList.push q2 _
    wp_walk using wpAny_pyIter_tuple y1, wpAny_pyIter_list y2
    exact ⟨_, rfl, q3⟩
section
variable {prog : Program} {w : World} {A : Around} {E : Value → Shared → Prop} {s : Shared}
theorem callM {a b : Addr} {us ws : Array Value} {Q : Value → Shared → Prop} (q1 : s.heap.IsTuple a us) (q2 : s.heap.IsList b ws)
    (q : ∀ h', tnM (s.heap.objs.size + 4) (s.heap.objs.size + 2) (s.heap.objs.size + 3) s.heap.objs.size (s.heap.objs.size + 1) a b 0 h' → (∀ c o, s.heap.get? c = some o → h'.get? c = some o) → Q (.ref (s.heap.objs.size + 4)) { s with heap := h' }) :
    wpAny (model prog w) A (call (.type "zip") [.ref a, .ref b]) Q E s := by
  refine callType_new F.called_zip (by decide) (F.typeCall_zip_2 _ _) (F.newCall_zip_2 _ _) (fun o => F.args_object_init_3 o _ _) F.entry_zip_new (newM a b us ws) ⟨q1, q2, ?_⟩
  have n1 : (hp1 s.heap a).objs.size = s.heap.objs.size + 1 := Heap.size_push ..
  have n2 : (hp2 s.heap a b).objs.size = s.heap.objs.size + 2 := (Heap.size_push ..).trans (congrArg (· + 1) n1)
  have n3 : (hp3 s.heap a b).objs.size = s.heap.objs.size + 3 := (Heap.size_push ..).trans (congrArg (· + 1) n2)
  have n4 : (hp4 s.heap a b).objs.size = s.heap.objs.size + 4 := (Heap.size_push ..).trans (congrArg (· + 1) n3)
  have u4 : ∀ {c o}, (hp4 s.heap a b).get? c = some o → (hp5 s.heap a b).get? c = some o := fun e => Heap.get?_push_of_some _ e
  have u3 : ∀ {c o}, (hp3 s.heap a b).get? c = some o → (hp5 s.heap a b).get? c = some o := fun e => u4 (Heap.get?_push_of_some _ e)
  have u2 : ∀ {c o}, (hp2 s.heap a b).get? c = some o → (hp5 s.heap a b).get? c = some o := fun e => u3 (Heap.get?_push_of_some _ e)
  have u1 : ∀ {c o}, (hp1 s.heap a).get? c = some o → (hp5 s.heap a b).get? c = some o := fun e => u2 (Heap.get?_push_of_some _ e)
  have o5 : (hp5 s.heap a b).get? (hp4 s.heap a b).objs.size = some _ := Heap.get?_push_size _ rfl
  have o4 : (hp5 s.heap a b).get? (hp3 s.heap a b).objs.size = some _ := u4 (Heap.get?_push_size _ rfl)
  have o3 : (hp5 s.heap a b).get? (hp2 s.heap a b).objs.size = some _ := u3 (Heap.get?_push_size _ rfl)
  have o2 : (hp5 s.heap a b).get? (hp1 s.heap a).objs.size = some _ := u2 (Heap.get?_push_size _ rfl)
  have o1 : (hp5 s.heap a b).get? s.heap.objs.size = some _ := u1 (Heap.get?_push_size _ rfl)
  rw [n2, n3, n4] at o5
  rw [n3] at o4
  rw [n1, n2] at o3
  rw [n1] at o2
  show _ ∧ _
  rw [n4]
  exact ⟨⟨_, o5, rfl⟩, q _ ⟨o5, o3, ⟨_, _, o4⟩, ⟨_, o1, rfl, rfl⟩, ⟨_, o2, rfl, rfl⟩⟩ fun c o e => u1 (Heap.get?_push_of_some _ e)⟩
end
def iZipM (K : PySem.W.Frag) (ta : TA) : TI := fun σ H R => ta σ H fun vs H1 => ∃ a b xs ys, vs = [.ref a, .ref b] ∧ SqT K H1 a xs ∧ SqL K H1 b ys ∧ R (ItM K a b) H1
theorem pi_zipM {X : Cx} {e e2 : Expr} {ta : TA} {p pos tpos : Pos} {elts : List Expr} {kk : Nat} (hg : Gl X "zip") (hm : X.mg "zip" = none) (ha : PA X [e, e2] ta)
    (hs : starEach [e, e2] X.env = (false, eval e X.env) :: starEach [e2] X.env := by rfl) (hpl : (backTo pos (starEach [e2] X.env)).any (·.1) = false := by rfl) :
    PI X (.Tuple elts kk tpos) (.Call (.Name "zip" p) [e, e2] [] pos) (iZipM X.K ta) := by
  refine ⟨fun pins s σ H R I h => ?_⟩
  refine Call_ (ld_blt I hg hm PyProof.Rows.boot_zip (PyProof.Rows.callWith_type1 (thn (ha.run pos pins s σ H _ I h) fun us s1 ⟨vs, H1, J, rr, q⟩ => ?_) hs hpl))
  obtain ⟨a, b, xs, ys, ev, qx, qy, q⟩ := q
  subst ev
  obtain ⟨u1, u2, eu, r1, r2⟩ := vals2 rr
  cases (show u1 = Value.ref a from r1)
  cases (show u2 = Value.ref b from r2)
  subst eu
  obtain ⟨us, ru, tu, _⟩ := J.tuple qx
  obtain ⟨ws, rw', pl, _⟩ := J.list qy
  refine callM tu pl.isList fun h1 st kp => wpAny_pyIter_zip st.1 ?_
  have la : a < s1.heap.objs.size := by obtain ⟨o, e, _⟩ := tu; exact Heap.lt_size e
  refine ⟨s1.heap.objs.size + 4, [s1.heap.objs.size + 4, s1.heap.objs.size + 2, s1.heap.objs.size + 3, s1.heap.objs.size, s1.heap.objs.size + 1], _, _, H1, rfl, J.kept (t' := s1.toks) kp, turnM (PySem.W.ktu_apart s1.heap.objs.size a b la pl.lt), st, fun c hc => ?_, q⟩
  have hle : s1.heap.objs.size ≤ c := by
    rcases mem5.mp hc with e | e | e | e | e <;> rw [e] <;> first | exact Nat.le_refl _ | exact Nat.le_add_right _ _
  exact J.fpOk hle (J.hok.fresh hle)
end ZM
open PySem L2
section
variable {K : PySem.W.Frag} {X : Cx} {e : Expr} {te : TE} {de : DE} {pos : Pos}
def diZipT (ta tb : DE) : DI := fun δ O R => ta δ O fun a O1 => tb δ O1 fun b O2 => match a with
  | .tup xs => oK (asL O2 b) fun ys => xs.length = ys.length ∧ R (zipD xs ys) (fun O' => asL O' b = some ys) O2
  | _ => False
theorem pdi_zipT {e2 : Expr} {te2 : TE} {de2 : DE} {p pos tpos : Pos} {elts : List Expr} {kk : Nat} (hg : Gl X "zip") (hm : X.mg "zip" = none) (h : PD X e te de) (h2 : PD X e2 te2 de2)
    (hs : starEach [e, e2] X.env = (false, eval e X.env) :: starEach [e2] X.env := by rfl) (hs2 : starEach [e2] X.env = (false, eval e2 X.env) :: starEach [] X.env := by rfl) (hpl : (backTo pos (starEach [e2] X.env)).any (·.1) = false := by rfl) :
    PDI X (.Tuple elts kk tpos) (.Call (.Name "zip" p) [e, e2] [] pos) (ZM.iZipM X.K (tCons te (tCons te2 tNil))) (diZipT de de2) := ⟨ZM.pi_zipM hg hm (pa_cons h.pe (pa_cons h2.pe pa_nil hs2) hs) hs hpl, fun σ H F m δ O R Q hh en q f => h.sn.go σ H F m δ O _ _ hh en q fun v H1 F1 m1 a O1 s1 h1 r1 t1 =>
  h2.sn.go σ H1 F1 m1 δ O1 _ _ h1 (en.mono s1) t1 fun w H2 F2 m2 b O2 s2 h2' r2 t2 => by
    have r1' := r1.mono s2
    cases r1' with
    | @tup p1 us xs fq rr1 =>
      obtain ⟨ys, e2', el, t2⟩ := t2.ex
      obtain ⟨p2, ws, rfl, hp2, rr2⟩ := asL_rep h2' r2 e2'
      have l1 := rr1.length
      have now2 : ∀ {H' F' : Hp} {m' : List Addr} {O' : Own}, Sub F2 m2 F' m' → Hol X.K F' H' m' O' → asL O' b = some ys → ∃ zs, H' p2 = some (.lst zs) ∧ RepL X.K F' m' zs ys := fun s' h' e' => by
        obtain ⟨p', ys, ep, hp', rr'⟩ := asL_rep h' (Rep.mono0 s' r2) e'
        cases ep
        exact ⟨ys, hp', rr'⟩
      have tq : ∀ {H' F' : Hp} {m' : List Addr} {O' : Own}, Sub F2 m2 F' m' → Hol X.K F' H' m' O' → SqT X.K H' p1 us := fun s' h' => SqT.of (h'.ex _ _ (s'.ex _ _ fq))
      refine ⟨p1, p2, us, ws, rfl, SqT.of (h2'.ex _ _ fq), SqL.of hp2, f (ZM.ItM X.K p1 p2) H2 F2 m2 _ _ O2 (s1.trans s2) h2' ⟨fun i H' F' m' O' s' h' e' hi => ?_, fun i H' F' m' O' s' h' e' hi => ?_, fun i H' F' m' O' x H3 d s' h' e' hd y => ?_⟩ t2⟩
      · rw [zipD_length] at hi
        obtain ⟨ws', hp2', rr2'⟩ := now2 s' h' e'
        have l2 := rr2'.length
        exact ⟨us, ws', us[i], ws'[i], tq s' h', SqL.of hp2', List.getElem?_eq_getElem (by omega), List.getElem?_eq_getElem (by omega)⟩
      · rw [zipD_length] at hi
        obtain ⟨ws', hp2', rr2'⟩ := now2 s' h' e'
        have l2 := rr2'.length
        exact ⟨us, ws', tq s' h', SqL.of hp2', by omega, by omega, by omega⟩
      · obtain ⟨ws', hp2', rr2'⟩ := now2 s' h' e'
        obtain ⟨T, x1, x2, e3, n, e4, y1, y2⟩ := y
        subst e3 e4
        obtain ⟨d1, d2, g1, g2, g3⟩ := zipD_get hd
        subst g3
        obtain ⟨v1, k1, q1⟩ := rr1.get g1
        obtain ⟨v2, k2, q2⟩ := rr2'.get g2
        have z1 := y1 us (tq s' h')
        have z2 := y2 ws' (SqL.of hp2')
        rw [k1] at z1
        rw [k2] at z2
        cases z1
        cases z2
        obtain ⟨s3, h3⟩ := h'.frz (ho := .tup [x1, x2]) n
        exact ⟨_, s3, h3, .tup upd_same (.cons ((Rep.mono0 s' q1).mono s3) (.cons (q2.mono s3) .nil))⟩
    | _ => exact t2.elim⟩
end
end DL

/-! DL, part h: helpers for what a reading says. -/
namespace DL
open PySem L2

theorem ifD {p : Prop} [Decidable p] {A B : Prop} (h1 : p → A) (h2 : ¬ p → B) : if decide p = true then A else B := by
  by_cases h : p
  · rw [if_pos (decide_eq_true h)]; exact h1 h
  · rw [if_neg (by rw [decide_eq_false h]; exact Bool.false_ne_true)]; exact h2 h
theorem ifB {b : Bool} {A B : Prop} (h1 : b = true → A) (h2 : b = false → B) : if b = true then A else B := by
  cases b with
  | true => rw [if_pos rfl]; exact h1 rfl
  | false => rw [if_neg Bool.false_ne_true]; exact h2 rfl
theorem ifT {b : Bool} {A B : Prop} (h : b = true) (h1 : A) : if b = true then A else B := by rw [if_pos h]; exact h1
theorem ifF {b : Bool} {A B : Prop} (h : b = false) (h1 : B) : if b = true then A else B := by rw [h, if_neg Bool.false_ne_true]; exact h1
theorem ifNT {b : Bool} {A B : Prop} (h : b = true) (h1 : B) : if (!b) = true then A else B := by rw [h]; exact h1
theorem ifNF {b : Bool} {A B : Prop} (h : b = false) (h1 : A) : if (!b) = true then A else B := by rw [h]; exact h1

/-! ### == -/
theorem eqv_bool (a b : Bool) : PyData.eqv (.bool a) (.bool b) = (a == b) := by simp only [PyData.eqv]
theorem eqv_tup (a b : List PyData) : PyData.eqv (.tuple a) (.tuple b) = PyData.eqvAll a b := by simp only [PyData.eqv]
theorem eqv_lst (a b : List PyData) : PyData.eqv (.list a) (.list b) = PyData.eqvAll a b := by simp only [PyData.eqv]
theorem eqvAll_nil : PyData.eqvAll [] [] = true := by simp only [PyData.eqvAll]
theorem eqvAll_cons (a b : PyData) (x y : List PyData) : PyData.eqvAll (a :: x) (b :: y) = (PyData.eqv a b && PyData.eqvAll x y) := by simp only [PyData.eqvAll]
theorem eqvAll_l (a : PyData) (x : List PyData) : PyData.eqvAll (a :: x) [] = false := by simp only [PyData.eqvAll]
theorem eqvAll_r (a : PyData) (x : List PyData) : PyData.eqvAll [] (a :: x) = false := by simp only [PyData.eqvAll]
/-- what pyD gives is equal to itself -/
theorem pyD_refl {O : Own} : ∀ (n : Nat) (d : D) (p : PyData), pyD O n d = some p → PyData.eqv p p = true
  | 0, _, _, e => by cases e
  | n + 1, d, p, e => by
    have ih := pyD_refl (O := O) n
    have all : ∀ (ds : List D) (ps : List PyData), pyL (pyD O n) ds = some ps → PyData.eqvAll ps ps = true := by
      intro ds
      induction ds with
      | nil => intro ps e; cases e; exact eqvAll_nil
      | cons d ds ihl =>
        intro ps e
        obtain ⟨q, qs, e1, e2, rfl⟩ := pyL_cons e
        rw [eqvAll_cons, ih d q e1, ihl qs e2]
        rfl
    have okM : ∀ {f : List PyData → PyData} {o : Option (List PyData)} {p : PyData}, o.map f = some p → ∃ ps, o = some ps ∧ p = f ps := fun {f o p} e => by
      cases o with
      | none => cases e
      | some ps => exact ⟨ps, rfl, (Option.some.inj e).symm⟩
    cases d with
    | non => cases e; simp only [PyData.eqv]
    | bl b => cases e; rw [eqv_bool]; exact beq_self_eq_true b
    | int i => cases e; rw [eqv_int]; exact decide_eq_true rfl
    | str s =>
      unfold pyD at e
      dsimp only at e
      split at e
      · cases e; rw [eqv_str]; exact decide_eq_true rfl
      · cases e
    | tup ds =>
      obtain ⟨ps, e1, rfl⟩ := okM e
      rw [eqv_tup]; exact all ds ps e1
    | lst ds =>
      obtain ⟨ps, e1, rfl⟩ := okM e
      rw [eqv_lst]; exact all ds ps e1
    | own k =>
      unfold pyD at e
      dsimp only at e
      split at e
      · obtain ⟨ps, e1, rfl⟩ := okM e
        rw [eqv_lst]; exact all _ ps e1
      · cases e
    | _ => cases e

/-! ### data whose == is told: PyD d p at any depth that is enough -/
/-- d is p for ==, whatever is held, at depth n -/
def Py (n : Nat) (d : D) (p : PyData) : Prop := ∀ (O : Own) (k : Nat), n ≤ k → pyD O k d = some p
def PyAll (n : Nat) (ds : List D) (ps : List PyData) : Prop := ∀ (O : Own) (k : Nat), n ≤ k → pyL (pyD O k) ds = some ps
theorem Py.mono {n k : Nat} {d : D} {p : PyData} (h : Py n d p) (l : n ≤ k) : Py k d p := fun O j hj => h O j (Nat.le_trans l hj)
theorem PyAll.mono {n k : Nat} {d : List D} {p : List PyData} (h : PyAll n d p) (l : n ≤ k) : PyAll k d p := fun O j hj => h O j (Nat.le_trans l hj)
theorem Py.int (i : Int) : Py 1 (.int i) (.int i) := fun O k h => by cases k with | zero => omega | succ k => rfl
theorem Py.bl (i : Bool) : Py 1 (.bl i) (.bool i) := fun O k h => by cases k with | zero => omega | succ k => rfl
theorem Py.non : Py 1 .non .none := fun O k h => by cases k with | zero => omega | succ k => rfl
theorem Py.str {s : Str} (h : PyData.strOk s = true) : Py 1 (.str s) (.str s) := fun O k hk => by
  cases k with
  | zero => omega
  | succ k =>
    show (if PyData.strOk s = true then some (PyData.str s) else none) = _
    rw [if_pos h]
theorem PyAll.nil (n : Nat) : PyAll n [] [] := fun O k h => rfl
theorem PyAll.cons {n : Nat} {d : D} {p : PyData} {ds : List D} {ps : List PyData} (h : Py n d p) (t : PyAll n ds ps) : PyAll n (d :: ds) (p :: ps) := fun O k hk => by
  show (match pyD O k d, pyL (pyD O k) ds with | some p, some ps => some (p :: ps) | _, _ => none) = _
  rw [h O k hk, t O k hk]
theorem Py.tup {n : Nat} {ds : List D} {ps : List PyData} (h : PyAll n ds ps) : Py (n + 1) (.tup ds) (.tuple ps) := fun O k hk => by
  cases k with
  | zero => omega
  | succ k =>
    show (pyL (pyD O k) ds).map PyData.tuple = _
    rw [h O k (by omega)]
    rfl
theorem Py.lst {n : Nat} {ds : List D} {ps : List PyData} (h : PyAll n ds ps) : Py (n + 1) (.lst ds) (.list ps) := fun O k hk => by
  cases k with
  | zero => omega
  | succ k =>
    show (pyL (pyD O k) ds).map PyData.list = _
    rw [h O k (by omega)]
    rfl
theorem PyAll.map {α : Type} {n : Nat} (f : α → D) (g : α → PyData) : ∀ (l : List α), (∀ x ∈ l, Py n (f x) (g x)) → PyAll n (l.map f) (l.map g)
  | [], _ => PyAll.nil n
  | x :: l, h => PyAll.cons (h x List.mem_cons_self) (PyAll.map f g l fun y hy => h y (List.mem_cons_of_mem _ hy))
theorem PyAll.ints (ns : List Int) : PyAll 1 (ns.map D.int) (ns.map PyData.int) := PyAll.map D.int PyData.int ns fun x _ => Py.int x
theorem PyAll.append {n : Nat} {ds es : List D} {ps qs : List PyData} (h : PyAll n ds ps) (g : PyAll n es qs) : PyAll n (ds ++ es) (ps ++ qs) := by
  induction ds generalizing ps with
  | nil =>
    have e := h [] n (Nat.le_refl _)
    cases e
    exact g
  | cons d ds ih =>
    have e := h [] n (Nat.le_refl _)
    obtain ⟨q, qs', e1, e2, rfl⟩ := pyL_cons e
    refine PyAll.cons (fun O k hk => ?_) (ih fun O k hk => ?_)
    · obtain ⟨q', qs'', f1, f2, f3⟩ := pyL_cons (h O k hk)
      cases f3
      exact f1
    · obtain ⟨q', qs'', f1, f2, f3⟩ := pyL_cons (h O k hk)
      cases f3
      exact f2
/-- == of two data told -/
theorem eqG_of {n k : Nat} {O : Own} {a b : D} {p q : PyData} {R : D → Own → Prop} (ha : Py n a p) (hb : Py k b q) (hn : n ≤ 40) (hk : k ≤ 40) (h : R (.bl (PyData.eqv p q)) O) : eqG O a b R := by
  unfold eqG oK
  rw [ha O 40 hn, hb O 40 hk]
  exact h
theorem eqD_of {n k : Nat} {O : Own} {a b : D} {p q : PyData} {R : D → Own → Prop} (ha : Py n a p) (hb : Py k b q) (hn : n ≤ 40) (hk : k ≤ 40) (h : R (.bl (PyData.eqv p q)) O) : eqD O a b R := eqG_D (eqG_of ha hb hn hk h)
theorem neD_of {n k : Nat} {O : Own} {a b : D} {p q : PyData} {R : D → Own → Prop} (ha : Py n a p) (hb : Py k b q) (hn : n ≤ 40) (hk : k ≤ 40) (h : R (.bl (!PyData.eqv p q)) O) : neD O a b R := eqD_of ha hb hn hk h
theorem eqD_self {O : Own} {a : D} {p : PyData} {R : D → Own → Prop} (ha : pyD O 40 a = some p) (h : R (.bl true) O) : eqD O a a R := by
  refine eqG_D ?_
  unfold eqG oK
  rw [ha]
  show R (.bl (PyData.eqv p p)) O
  rw [pyD_refl 40 a p ha]
  exact h
theorem neD_self {O : Own} {a : D} {p : PyData} {R : D → Own → Prop} (ha : pyD O 40 a = some p) (h : R (.bl false) O) : neD O a a R := eqD_self ha h
/-! ### comprehensions -/
/-- every item kept, its element told -/
theorem lc_map {i : Nat} {te : DE} {chk : Own → Prop} {δ : DSt} {R : List D → Own → Prop} {O : Own} (f : D → D) (hc : chk O) : ∀ (ds acc : List D), (∀ d ∈ ds, ∀ Q : D → Own → Prop, Q (f d) O → te (δ.set i (some d)) O Q) → acc.length + ds.length ≤ 100000 → R (acc ++ ds.map f) O →
    lcL (dgName i) dYes te chk δ R ds acc O
  | [], acc, _, _, h => ⟨hc, by simpa using h⟩
  | d :: ds, acc, he, hl, h => by
    refine ⟨hc, ?_⟩
    show te (δ.set i (some d)) O _
    rw [List.length_cons] at hl
    refine he d List.mem_cons_self _ ⟨by omega, lc_map f hc ds (acc ++ [f d]) (fun x hx => he x (List.mem_cons_of_mem _ hx)) (by rw [List.length_append, List.length_singleton]; omega) ?_⟩
    rw [List.append_assoc]
    exact h
/-- some items kept -/
theorem lc_filter {i : Nat} {tt : DT} {te : DE} {chk : Own → Prop} {δ : DSt} {R : List D → Own → Prop} {O : Own} (b : D → Bool) (f : D → D) (hc : chk O) : ∀ (ds acc : List D), (∀ d ∈ ds, ∀ Q : Bool → Own → Prop, Q (b d) O → tt (δ.set i (some d)) O Q) →
    (∀ d ∈ ds, b d = true → ∀ Q : D → Own → Prop, Q (f d) O → te (δ.set i (some d)) O Q) → acc.length + ds.length ≤ 100000 → R (acc ++ (ds.filter b).map f) O → lcL (dgName i) tt te chk δ R ds acc O
  | [], acc, _, _, _, h => ⟨hc, by simpa using h⟩
  | d :: ds, acc, hb, he, hl, h => by
    rw [List.length_cons] at hl
    refine ⟨hc, ?_⟩
    show tt (δ.set i (some d)) O _
    refine hb d List.mem_cons_self _ ?_
    cases q : b d with
    | true =>
      rw [if_pos rfl]
      refine he d List.mem_cons_self q _ ⟨by omega, lc_filter b f hc ds (acc ++ [f d]) (fun x hx => hb x (List.mem_cons_of_mem _ hx)) (fun x hx => he x (List.mem_cons_of_mem _ hx)) (by rw [List.length_append, List.length_singleton]; omega) ?_⟩
      rw [List.filter_cons_of_pos q, List.map_cons] at h
      rw [List.append_assoc]
      exact h
    | false =>
      rw [if_neg Bool.false_ne_true]
      rw [List.filter_cons_of_neg (by rw [q]; exact Bool.false_ne_true)] at h
      exact lc_filter b f hc ds acc (fun x hx => hb x (List.mem_cons_of_mem _ hx)) (fun x hx => he x (List.mem_cons_of_mem _ hx)) (by omega) h
/-! ### own lists at the top -/
theorem top_get {O : Own} {a : Option DO} : (O ++ [a])[O.length]? = some a := by rw [List.getElem?_append_right (Nat.le_refl _), Nat.sub_self]; rfl
theorem top_set {O : Own} {a b : Option DO} : (O ++ [a]).set O.length b = O ++ [b] := by rw [List.set_append_right _ _ (Nat.le_refl _), Nat.sub_self]; rfl
theorem top_take {O : Own} {l : Own} : (O ++ l).take O.length = O := List.take_left
theorem low_get {O l : Own} {i : Nat} (h : i < O.length) : (O ++ l)[i]? = O[i]? := List.getElem?_append_left h
theorem asL_up {O l : Own} {d : D} {ds : List D} (h : asL O d = some ds) : asL (O ++ l) d = some ds := by
  cases d with
  | own k =>
    unfold asL at h ⊢
    dsimp only at h ⊢
    cases q : O[k]? with
    | none => rw [q] at h; cases h
    | some o => rw [List.getElem?_append_left (List.getElem?_eq_some_iff.mp q).1, q]; rw [q] at h; exact h
  | _ => exact h
theorem rng_mem {lo : Int} {n : Nat} {d : D} (h : d ∈ rngD lo n) : ∃ i : Nat, i < n ∧ d = .int (lo + (i : Nat)) := by
  unfold rngD at h
  obtain ⟨i, hi, rfl⟩ := List.mem_map.mp h
  exact ⟨i, List.mem_range.mp hi, rfl⟩
theorem atI_at {α : Type} {l : List α} {i : Nat} {x : α} (h : l[i]? = some x) : atI l ((i : Nat) : Int) = some x := atI_nat h
theorem atI_of {α : Type} {l : List α} {z : Int} {x : α} (i : Nat) (e : z = (i : Nat)) (h : l[i]? = some x) : atI l z = some x := by rw [e]; exact atI_nat h
end DL
namespace DL
open PySem L2
theorem asL_top {O : Own} {ds : List D} : asL (O ++ [some (.lst ds)]) (.own O.length) = some ds := by
  unfold asL
  dsimp only
  rw [top_get]
/-- a range from its i-th item on -/
def rngM : Nat → Nat → List D
  | _, 0 => []
  | i, k + 1 => .int ((i : Nat) : Int) :: rngM (i + 1) k
theorem rngM_eq : ∀ (k i : Nat), rngM i k = (List.range' i k).map fun j => D.int ((j : Nat) : Int)
  | 0, _ => rfl
  | k + 1, i => by
    rw [List.range'_succ, List.map_cons, ← rngM_eq k (i + 1)]
    rfl
theorem rngN_from (n : Nat) : rngN n = rngM 0 n := by
  rw [rngM_eq, ← List.range_eq_range']
  rfl
theorem rngN_mem {n : Nat} {d : D} (h : d ∈ rngN n) : ∃ i : Nat, i < n ∧ d = .int ((i : Nat) : Int) := by
  unfold rngN at h
  obtain ⟨i, hi, rfl⟩ := List.mem_map.mp h
  exact ⟨i, List.mem_range.mp hi, rfl⟩
theorem rngN_length (n : Nat) : (rngN n).length = n := by simp [rngN]
theorem take_set {α : Type} {T A : List α} {i : Nat} {x : α} (hT : T[i]? = some x) (hl : T.length = A.length) : (T.take i ++ A.drop i).set i x = T.take (i + 1) ++ A.drop (i + 1) := by
  obtain ⟨h, e⟩ := List.getElem?_eq_some_iff.mp hT
  have hA : i < A.length := by omega
  have l1 : (T.take i).length = i := by rw [List.length_take]; omega
  rw [List.set_append_right _ _ (by omega), l1, Nat.sub_self, List.drop_eq_getElem_cons hA, List.set_cons_zero, List.take_succ_eq_append_getElem h, e, List.append_assoc]
  rfl
theorem take_get {α : Type} {T A : List α} {i : Nat} {x : α} (hA : A[i]? = some x) (hl : T.length = A.length) : (T.take i ++ A.drop i)[i]? = some x := by
  obtain ⟨h, e⟩ := List.getElem?_eq_some_iff.mp hA
  have l1 : (T.take i).length = i := by rw [List.length_take]; omega
  rw [List.getElem?_append_right (by omega), l1, Nat.sub_self, List.drop_eq_getElem_cons h, e]
  rfl
end DL
namespace DL
open PySem L2
/-- a for over told items, with what is kept up said of the items that are left -/
theorem forL_inv {α : Type} (f : α → D) {g : DTg} {b : DS} {chk : Own → Prop} {E : DEnds} (I : List α → DSt → Own → Prop) (hc : ∀ l δ O, I l δ O → chk O)
    (step : ∀ a l δ O nx, I (a :: l) δ O → (∀ δ' O', I l δ' O' → nx δ' O') → g (f a) δ O fun δ1 O1 => b { E with nx := nx, ct := nx, bk := E.nx } δ1 O1)
    (done : ∀ δ O, I [] δ O → E.nx δ O) : ∀ (l : List α) (δ : DSt) (O : Own), I l δ O → forL g b chk E (l.map f) δ O
  | [], δ, O, h => ⟨hc _ _ _ h, done _ _ h⟩
  | a :: l, δ, O, h => ⟨hc _ _ _ h, step a l δ O _ h fun δ' O' h' => forL_inv f I hc step done l δ' O' h'⟩
theorem forL_rngM {g : DTg} {b : DS} {chk : Own → Prop} {E : DEnds} (n : Nat) (I : Nat → DSt → Own → Prop) (hc : ∀ j δ O, I j δ O → chk O)
    (step : ∀ j δ O nx, j < n → I j δ O → (∀ δ' O', I (j + 1) δ' O' → nx δ' O') → g (.int ((j : Nat) : Int)) δ O fun δ1 O1 => b { E with nx := nx, ct := nx, bk := E.nx } δ1 O1)
    (done : ∀ δ O, I n δ O → E.nx δ O) : ∀ (k i : Nat) (δ : DSt) (O : Own), i + k = n → I i δ O → forL g b chk E (rngM i k) δ O
  | 0, i, δ, O, e, h => ⟨hc _ _ _ h, done _ _ ((show i = n by omega) ▸ h)⟩
  | k + 1, i, δ, O, e, h => ⟨hc _ _ _ h, step i δ O _ (by omega) h fun δ' O' h' => forL_rngM n I hc step done k (i + 1) δ' O' (by omega) h'⟩
theorem forL_rng {g : DTg} {b : DS} {chk : Own → Prop} {E : DEnds} (n : Nat) (I : Nat → DSt → Own → Prop) {δ : DSt} {O : Own} (h : I 0 δ O) (hc : ∀ j δ O, I j δ O → chk O)
    (step : ∀ j δ O nx, j < n → I j δ O → (∀ δ' O', I (j + 1) δ' O' → nx δ' O') → g (.int ((j : Nat) : Int)) δ O fun δ1 O1 => b { E with nx := nx, ct := nx, bk := E.nx } δ1 O1)
    (done : ∀ δ O, I n δ O → E.nx δ O) : forL g b chk E (rngN n) δ O := by
  rw [rngN_from]
  exact forL_rngM n I hc step done n 0 δ O (by omega) h
/-- every number of a range, its element told -/
theorem lc_rng {i n : Nat} {te : DE} {chk : Own → Prop} {δ : DSt} {R : List D → Own → Prop} {O : Own} (f : Nat → D) (hc : chk O) (hn : n ≤ 100000) (he : ∀ j : Nat, j < n → ∀ Q : D → Own → Prop, Q (f j) O → te (δ.set i (some (.int ((j : Nat) : Int)))) O Q)
    (h : R ((List.range n).map f) O) : lcL (dgName i) dYes te chk δ R (rngN n) [] O := by
  refine lc_map (fun d => match d with | .int z => f z.toNat | _ => .non) hc (rngN n) [] (fun d hd Q q => ?_) (by rw [rngN_length]; simpa using hn) ?_
  · obtain ⟨j, hj, rfl⟩ := rngN_mem hd
    exact he j hj Q q
  · unfold rngN
    rw [List.map_map]
    exact h
/-- every item of a told list, its element told -/
theorem lc_list {α : Type} {i : Nat} {te : DE} {chk : Own → Prop} {δ : DSt} {R : List D → Own → Prop} {O : Own} (g : α → D) (f : α → D) (hc : chk O) : ∀ (l : List α) (acc : List D), (∀ a ∈ l, ∀ Q : D → Own → Prop, Q (f a) O → te (δ.set i (some (g a))) O Q) →
    acc.length + l.length ≤ 100000 → R (acc ++ l.map f) O → lcL (dgName i) dYes te chk δ R (l.map g) acc O
  | [], acc, _, _, h => ⟨hc, by simpa using h⟩
  | a :: l, acc, he, hl, h => by
    refine ⟨hc, ?_⟩
    show te (δ.set i (some (g a))) O _
    rw [List.length_cons] at hl
    refine he a List.mem_cons_self _ ⟨by omega, lc_list g f hc l (acc ++ [f a]) (fun x hx => he x (List.mem_cons_of_mem _ hx)) (by rw [List.length_append, List.length_singleton]; omega) ?_⟩
    rw [List.append_assoc]
    exact h
end DL
namespace DL
open PySem L2
/-- == of two texts: the same; others -/
theorem strT {s : Str} {G : Bool → Prop} (h : PyData.strOk s = true) (g : G true) : (PyData.strOk s = true ∧ PyData.strOk s = true) ∧ ∀ k : Bool, k = decide (s = s) → G k := ⟨⟨h, h⟩, fun k e => by rw [e, decide_eq_true rfl]; exact g⟩
theorem strF {s t : Str} {G : Bool → Prop} (h : PyData.strOk s = true) (h2 : PyData.strOk t = true) (ne : ¬ s = t) (g : G false) : (PyData.strOk s = true ∧ PyData.strOk t = true) ∧ ∀ k : Bool, k = decide (s = t) → G k := ⟨⟨h, h2⟩, fun k e => by rw [e, decide_eq_false ne]; exact g⟩
end DL

/-! DL, part k: the rules whose reading names the written part, with that part told (needed inside comprehensions). -/
namespace DL
open PySem L2
section
variable {X : Cx} {K : PySem.W.Frag}
theorem pd_sliceK {e : Expr} {lo hi : Option Expr} {te : TE} {de : DE} {tl th : TO} {dl dh : DPt} {p2 pos : Pos} (he : PD X e te de) (hl : PDO X lo tl dl) (hh : PDO X hi th dh) (hK : X.K = K := by rfl) : PD X (.Subscript e (.Slice lo hi none p2) pos) (tSl (rSl2 K) te tl th) (dSl de dl dh) := by
  subst hK; exact pd_slice he hl hh
theorem pl_sliceK {e : Expr} {lo hi : Option Expr} {te : TE} {de : DE} {tl th : TO} {dl dh : DPt} {p2 pos : Pos} (he : PD X e te de) (hl : PDO X lo tl dl) (hh : PDO X hi th dh) (hK : X.K = K := by rfl) : PDL X (.Subscript e (.Slice lo hi none p2) pos) (tSl (rSlL K) te tl th) (dSlL de dl dh) := by
  subst hK; exact pl_slice he hl hh
theorem pl_revK {e : Expr} {te : TE} {de : DE} {k : Nat} {p1 p2 p3 pos : Pos} (he : PD X e te de) (hK : X.K = K := by rfl) : PDL X (.Subscript e (.Slice none none (some (.UnaryOp .USub (.Constant (.int 1) k p1) p2)) p3) pos) (tRevL K te) (dRev de) := by
  subst hK; exact pl_rev he
theorem pd_fldK {e : Expr} {te : TE} {de : DE} {f : Str} {C : Addr} {pos : Pos} (he : PD X e te de) (cl : Cls K C) (na : NoAttr K C f) (hK : X.K = K := by rfl) (hb : attributeBase e f X.env (eval e X.env) = eval e X.env := by rfl) : PD X (.Attribute e f pos) (tFld K te f) (dFld C de f) := by
  subst hK; exact pd_fld he cl na hb
theorem pl_listK {x : Str} {p pos : Pos} {e : Expr} {te : TE} {de : DE} (hg : Gl X x) (hm : X.mg x = none) (hv : bootBuiltins x = some (.type "list")) (he : PD X e te de) (hK : X.K = K := by rfl) (hn : x ≠ "__name__" := by decide) (hdb : (x == ("__debug__" : Str)) = false := by decide)
    (hs : starEach [e] X.env = (false, eval e X.env) :: starEach [] X.env := by rfl) (hpl : (backTo pos (starEach [] X.env)).any (·.1) = false := by rfl) : PDL X (.Call (.Name x p) [e] [] pos) (tCB (rListOf K) (tCons te tNil)) (dList de) := by
  subst hK; exact pl_list hg hm hv he hn hdb hs hpl
theorem pd_isiK {x y : Str} {p p2 pos : Pos} {e : Expr} {te : TE} {de : DE} (T : Ty) (n : String) (hk : ∀ t : Ty, kitB t.name n = some (isTy t T)) (hg : Gl X x) (hm : X.mg x = none) (hv : bootBuiltins x = some (.builtin "isinstance")) (he : PD X e te de)
    (hgy : Gl X y) (hmy : X.mg y = none) (hvy : bootBuiltins y = some (.type n)) (hK : X.K = K := by rfl) (hn : x ≠ "__name__" := by decide) (hdb : (x == ("__debug__" : Str)) = false := by decide) (hny : y ≠ "__name__" := by decide) (hdby : (y == ("__debug__" : Str)) = false := by decide)
    (hs : starEach [e, .Name y p2] X.env = (false, eval e X.env) :: starEach [.Name y p2] X.env := by rfl) (hs2 : starEach [.Name y p2] X.env = (false, eval (.Name y p2) X.env) :: starEach [] X.env := by rfl) (hpl : (backTo pos (starEach [.Name y p2] X.env)).any (·.1) = false := by rfl) :
    PD X (.Call (.Name x p) [e, .Name y p2] [] pos) (tCB (rIsi K) (tCons te (tCons (tC (.ty n)) tNil))) (dIsi T de) := by
  subst hK; exact pd_isi T n hk hg hm hv he hgy hmy hvy hn hdb hny hdby hs hs2 hpl
theorem pdg_tupK {es : List Expr} {k : Nat} {g : TGs} {dg : DTgs} {n : Nat} {pos : Pos} (hc : X.calm = true) (h : PDGs X es g dg) (hK : X.K = K := by rfl) (hn : (assignEach es X.env).length = n := by rfl) (hst : (assignEach es X.env).findIdx? (·.1) = none := by rfl) : PDG X (.Tuple es k pos) (gTup K n g) (dgTup n dg) := by
  subst hK; exact pdg_tup hc h hn hst
theorem pdi_listK {tg l : Expr} {tl : TE} {dl : DE} (h : PD X l tl dl) (hK : X.K = K := by rfl) : PDI X tg l (iList K tl) (diL dl) := by subst hK; exact pdi_list h
theorem pdi_tupK {tg l : Expr} {tl : TE} {dl : DE} (h : PD X l tl dl) (hK : X.K = K := by rfl) : PDI X tg l (iTup K tl) (diT dl) := by subst hK; exact pdi_tup h
theorem pdi_enumK {l : Expr} {tl : TE} {dl : DE} {p pos tpos : Pos} {elts : List Expr} {kk : Nat} (hg : Gl X "enumerate") (hm : X.mg "enumerate" = none) (h : PD X l tl dl) (hK : X.K = K := by rfl) (hs : starEach [l] X.env = [(false, eval l X.env)] := by rfl) :
    PDI X (.Tuple elts kk tpos) (.Call (.Name "enumerate" p) [l] [] pos) (iEnum K (tCons tl tNil)) (diEn dl) := by subst hK; exact pdi_enum hg hm h hs
theorem pdi_zipK {e e2 : Expr} {te te2 : TE} {de de2 : DE} {p pos tpos : Pos} {elts : List Expr} {kk : Nat} (hg : Gl X "zip") (hm : X.mg "zip" = none) (h : PD X e te de) (h2 : PD X e2 te2 de2) (hK : X.K = K := by rfl)
    (hs : starEach [e, e2] X.env = (false, eval e X.env) :: starEach [e2] X.env := by rfl) (hs2 : starEach [e2] X.env = (false, eval e2 X.env) :: starEach [] X.env := by rfl) (hpl : (backTo pos (starEach [e2] X.env)).any (·.1) = false := by rfl) :
    PDI X (.Tuple elts kk tpos) (.Call (.Name "zip" p) [e, e2] [] pos) (L2.iZip K (tCons te (tCons te2 tNil))) (diZip de de2) := by subst hK; exact pdi_zip hg hm h h2 hs hs2 hpl
theorem pdi_zipTK {e e2 : Expr} {te te2 : TE} {de de2 : DE} {p pos tpos : Pos} {elts : List Expr} {kk : Nat} (hg : Gl X "zip") (hm : X.mg "zip" = none) (h : PD X e te de) (h2 : PD X e2 te2 de2) (hK : X.K = K := by rfl)
    (hs : starEach [e, e2] X.env = (false, eval e X.env) :: starEach [e2] X.env := by rfl) (hs2 : starEach [e2] X.env = (false, eval e2 X.env) :: starEach [] X.env := by rfl) (hpl : (backTo pos (starEach [e2] X.env)).any (·.1) = false := by rfl) :
    PDI X (.Tuple elts kk tpos) (.Call (.Name "zip" p) [e, e2] [] pos) (ZM.iZipM K (tCons te (tCons te2 tNil))) (diZipT de de2) := by subst hK; exact pdi_zipT hg hm h h2 hs hs2 hpl
theorem pd_methK {P : Program} {w : World} {mg : Str → Option Value} {base : Heap} {k : Nat} {f C : Addr} {fd : FuncData} {ps : List Str} {S : DSp} {mn : Str} {pos apos : Pos} {e o : Expr} {es : List Expr} {t : TA} {da : DA} {to : TE} {dO : DE} {pl : Sem Bool} (ho : PD X o to dO) (c : Cls K C) (hm : Meth K C mn f) (G : FnD P w K mg base k f fd ps S) (hr : Room k X.A) (hb : Binds K fd ps []) (ha : PDA X (e :: es) t da)
    (hX : X.prog = P ∧ X.w = w ∧ X.K = K ∧ X.mg = mg ∧ X.base = base := by exact ⟨rfl, rfl, rfl, rfl, rfl⟩) (hst : starEach (e :: es) X.env = (false, eval e X.env) :: starEach es X.env := by rfl) (hpl : (backTo pos (starEach es X.env)).any (·.1) = false := by rfl)
    (ht : eval (.Call (.Attribute o mn apos) (e :: es) [] pos) X.env = (do
      let ov ← eval o X.env
      standAt apos.atName
      let (f, first) ← holding [ov] (getMethod ov mn pl)
      callWith pos f first (backTo pos (starEach (e :: es) X.env)) (backToKw pos (keywordEach [] X.env))) := by rfl) :
    PD X (.Call (.Attribute o mn apos) (e :: es) [] pos) (tMeth C mn (spD K S) [] E0 to t) (dMeth C mn S dO da) := by
  obtain ⟨rfl, rfl, rfl, rfl, rfl⟩ := hX
  exact pd_meth ho c hm G hr hb ha hst hpl ht
theorem pd_methK0 {P : Program} {w : World} {mg : Str → Option Value} {base : Heap} {k : Nat} {f C : Addr} {fd : FuncData} {ps : List Str} {S : DSp} {mn : Str} {pos apos : Pos} {o : Expr} {to : TE} {dO : DE} {pl : Sem Bool} (ho : PD X o to dO) (c : Cls K C) (hm : Meth K C mn f) (G : FnD P w K mg base k f fd ps S) (hr : Room k X.A) (hb : Binds K fd ps [])
    (hX : X.prog = P ∧ X.w = w ∧ X.K = K ∧ X.mg = mg ∧ X.base = base := by exact ⟨rfl, rfl, rfl, rfl, rfl⟩)
    (ht : eval (.Call (.Attribute o mn apos) [] [] pos) X.env = (do
      let ov ← eval o X.env
      standAt apos.atName
      let (f, first) ← holding [ov] (getMethod ov mn pl)
      callWith pos f first (backTo pos (starEach [] X.env)) (backToKw pos (keywordEach [] X.env))) := by rfl) :
    PD X (.Call (.Attribute o mn apos) [] [] pos) (tMeth C mn (spD K S) [] E0 to tNil) (dMeth C mn S dO dNil) := by
  obtain ⟨rfl, rfl, rfl, rfl, rfl⟩ := hX
  exact pd_meth0 ho c hm G hr hb ht
end
end DL

/-! Sums: what value, opposite and put_in compute. -/
namespace DL
open PySem L2
local macro_rules | `(tactic| walk_at "w") => `(tactic| conv => whnf)
abbrev Sm := List Int × Int
def encI (ns : List Int) : List D := ns.map D.int
def encS (s : Sm) : D := .tup [.tup (encI s.1), .int s.2]
def dot : List Int → List Int → Int
  | a :: as, b :: bs => a * b + dot as bs
  | _, _ => 0
def valS (s : Sm) (fs : List Int) : Int := s.2 + dot s.1 fs
def oppS (s : Sm) : Sm := (s.1.map (0 - ·), 1 - s.2)
def addk (k : Int) (acc c : List Int) : List Int := List.zipWith (fun a x => a + k * x) acc c
def putAcc : List Int → List Sm → List Int → Int → Sm
  | k :: ks, b :: bs, acc, m => putAcc ks bs (addk k acc b.1) (m + k * b.2)
  | _, _, acc, m => (acc, m)
def putS (n : Nat) (s : Sm) (bs : List Sm) : Sm := putAcc s.1 bs (List.replicate n 0) s.2
def BdL (n : Nat) (l : List Int) : Prop := ∀ x ∈ l, Bd n x
theorem BdL.head {n : Nat} {x : Int} {l : List Int} (h : BdL n (x :: l)) : Bd n x := h x List.mem_cons_self
theorem BdL.tail {n : Nat} {x : Int} {l : List Int} (h : BdL n (x :: l)) : BdL n l := fun y hy => h y (List.mem_cons_of_mem _ hy)
theorem encI_get {ns : List Int} {i : Nat} {x : Int} (h : ns[i]? = some x) : (encI ns)[i]? = some (.int x) := by unfold encI; rw [List.getElem?_map, h]; rfl
theorem encI_length (ns : List Int) : (encI ns).length = ns.length := List.length_map ..
theorem encI_hd {n : Nat} (ns : List Int) : HdL n (encI ns) := HdL.ints ns
theorem encS_hd {n : Nat} (s : Sm) : Hd n (encS s) := .tup (.cons (.tup (encI_hd _)) (.cons (.int _) .nil))
/-! ### value -/
def N_value : List Str := ["one", "filling", "found", "number", "held"]
def R_value : DS :=
  (dSeq (dAsg (dOp ixD (dVar 0) (dC (.int 1))) (dgName 2))
  (dSeq (dFor (diZipT (dOp ixD (dVar 0) (dC (.int 0))) (dVar 1)) (dgTup 2 (dgCons (dgName 3) (dgCons (dgName 4) dgNil))) (dAsg (dOp addD (dVar 2) (dOp mulD (dVar 3) (dVar 4))) (dgName 2)))
  (dRet (dVar 2))))
def S_value : DSp := fun ds O R => ∃ (s : Sm) (fs : List Int) (d2 : D), ds = [encS s, d2] ∧ asL O d2 = some (encI fs) ∧ s.1.length = fs.length ∧ BdL 3000 s.1 ∧ BdL 3000 fs ∧ R (.int (valS s fs)) O
theorem len_value (ds : List D) (O : Own) (R : D → Own → Prop) (h : S_value ds O R) : ds.length = 2 := by obtain ⟨_, _, _, rfl, _⟩ := h; rfl
theorem loop_value {chk : Own → Prop} {E : DEnds} {O : Own} {d1 d2 : Option D} (hc : chk O) : ∀ (ns fs : List Int) (m : Int) (a b : Option D), BdL 3000 ns → BdL 3000 fs → (∀ a b, E.nx [d1, d2, some (.int (m + dot ns fs)), a, b] O) →
    forL (dgTup 2 (dgCons (dgName 3) (dgCons (dgName 4) dgNil))) (dAsg (dOp addD (dVar 2) (dOp mulD (dVar 3) (dVar 4))) (dgName 2)) chk E (zipD (encI ns) (encI fs)) [d1, d2, some (.int m), a, b] O
  | [], fs, m, a, b, _, _, h => ⟨hc, by have := h a b; simpa [dot] using this⟩
  | n :: ns, [], m, a, b, _, _, h => ⟨hc, by have := h a b; simpa [dot] using this⟩
  | n :: ns, f :: fs, m, a, b, b1, b2, h => by
    refine ⟨hc, ?_⟩
    walk_at "w"
    refine ⟨.inl ⟨b1.head, b2.head⟩, ?_⟩
    refine loop_value hc ns fs (m + n * f) _ _ b1.tail b2.tail fun a b => ?_
    rw [Int.add_assoc]
    exact h a b
theorem sem_value (ds : List D) (O : Own) (R : D → Own → Prop) (h : S_value ds O R) : R_value { nx := fun _ O' => Pure O R .non O', rt := Pure O R } (startD N_value ds) O := by
  obtain ⟨s, fs, d2, rfl, h2, hl, b1, b2, h⟩ := h
  walk_at "w"
  rw [h2]
  refine ⟨by simpa [encI] using hl, ?_⟩
  exact loop_value h2 s.1 fs s.2 none none b1 b2 fun a b => Pure.same (.int _) h
/-! ### opposite -/
def N_opposite : List Str := ["one", "number"]
def R_opposite : DS :=
  (dRet (dTup (dCons (dCall1 tupleD (dCons (dFrz (dLc (diT (dOp ixD (dVar 0) (dC (.int 0)))) (dgName 1) dYes (dOp subD (dC (.int 0)) (dVar 1)) [1])) dNil)) (dCons (dOp subD (dC (.int 1)) (dOp ixD (dVar 0) (dC (.int 1)))) dNil))))
def S_opposite : DSp := fun ds O R => ∃ (s : Sm), ds = [encS s] ∧ s.1.length ≤ 1000 ∧ R (encS (oppS s)) O
theorem len_opposite (ds : List D) (O : Own) (R : D → Own → Prop) (h : S_opposite ds O R) : ds.length = 1 := by obtain ⟨_, rfl, _⟩ := h; rfl
def negI : D → D
  | .int i => .int (0 - i)
  | d => d
theorem negI_map (ns : List Int) : (encI ns).map negI = encI (ns.map (0 - ·)) := by
  unfold encI
  rw [List.map_map, List.map_map]
  rfl
theorem sem_opposite (ds : List D) (O : Own) (R : D → Own → Prop) (h : S_opposite ds O R) : R_opposite { nx := fun _ O' => Pure O R .non O', rt := Pure O R } (startD N_opposite ds) O := by
  obtain ⟨s, rfl, hl, h⟩ := h
  show lcL (dgName 1) dYes _ _ _ _ (encI s.1) [] O
  refine lc_map negI trivial _ [] (fun d hd Q q => ?_) (by rw [encI_length]; simp; omega) ?_
  · obtain ⟨i, _, rfl⟩ := List.mem_map.mp hd
    exact q
  · rw [negI_map]
    exact Pure.same (encS_hd (oppS s)) h
/-! ### put_in -/
def N_put_in : List Str := ["one", "boxes", "numbers", "more", "number", "box", "at"]
def R_put_in : DS :=
  (dSeq (dAsg (dNew (dTimes (dFrz (dLst (dCons (dC (.int 0)) dNil))) (dCall1 lenD (dCons (dOp ixD (dOp ixD (dVar 1) (dC (.int 0))) (dC (.int 0))) dNil)))) (dgName 2))
  (dSeq (dAsg (dOp ixD (dVar 0) (dC (.int 1))) (dgName 3))
  (dSeq (dFor (diZipT (dOp ixD (dVar 0) (dC (.int 0))) (dVar 1)) (dgTup 2 (dgCons (dgName 4) (dgCons (dgName 5) dgNil))) (dSeq (dAsg (dOp addD (dVar 3) (dOp mulD (dVar 4) (dOp ixD (dVar 5) (dC (.int 1))))) (dgName 3))
  (dFor (diR1 (dCall1 lenD (dCons (dVar 2) dNil))) (dgName 6) (dAsg (dOp addD (dOp ixD (dVar 2) (dVar 6)) (dOp mulD (dVar 4) (dOp ixD (dOp ixD (dVar 5) (dC (.int 0))) (dVar 6)))) (dgSub (dVar 2) (dVar 6))))))
  (dRet (dTup (dCons (dCall1 tupleD (dCons (dVar 2) dNil)) (dCons (dVar 3) dNil)))))))
structure BxOk (n : Nat) (b : Sm) : Prop where
  len : b.1.length = n
  bd : BdL 3000 b.1
  bd2 : Bd 3000 b.2
def S_put_in : DSp := fun ds O R => ∃ (s : Sm) (bs : List Sm) (n : Nat), ds = [encS s, .lst (bs.map encS)] ∧ s.1.length = bs.length ∧ 0 < bs.length ∧ n ≤ 1000 ∧ BdL 3000 s.1 ∧ (∀ b ∈ bs, BxOk n b) ∧ R (encS (putS n s bs)) O
theorem len_put_in (ds : List D) (O : Own) (R : D → Own → Prop) (h : S_put_in ds O R) : ds.length = 2 := by obtain ⟨_, _, _, rfl, _⟩ := h; rfl
theorem inner_put_in {E : DEnds} {O : Own} {d0 d1 d3 : Option D} {k : Int} {b : Sm} {n : Nat} {acc : List Int} (hk : Bd 3000 k) (hb : BxOk n b) (ha : acc.length = n) (hE : ∀ x, E.nx [d0, d1, some (.own O.length), d3, some (.int k), some (encS b), x] (O ++ [some (.lst (encI (addk k acc b.1)))])) :
    ∀ (j i : Nat) (x : Option D), i + j = n →
    forL (dgName 6) (dAsg (dOp addD (dOp ixD (dVar 2) (dVar 6)) (dOp mulD (dVar 4) (dOp ixD (dOp ixD (dVar 5) (dC (.int 0))) (dVar 6)))) (dgSub (dVar 2) (dVar 6))) (fun _ => True) E (rngM i j)
      [d0, d1, some (.own O.length), d3, some (.int k), some (encS b), x] (O ++ [some (.lst (encI ((addk k acc b.1).take i ++ acc.drop i)))])
  | 0, i, x, h => by
    have hT : (addk k acc b.1).length = n := by unfold addk; rw [List.length_zipWith, hb.len, ha, Nat.min_self]
    have e : (addk k acc b.1).take i ++ acc.drop i = addk k acc b.1 := by rw [List.take_of_length_le (by omega), List.drop_eq_nil_of_le (by omega), List.append_nil]
    rw [e]
    exact ⟨trivial, hE x⟩
  | j + 1, i, x, h => by
    have hT : (addk k acc b.1).length = n := by unfold addk; rw [List.length_zipWith, hb.len, ha, Nat.min_self]
    have hi1 : i < acc.length := by omega
    have hi2 : i < b.1.length := by have := hb.len; omega
    have hx : (addk k acc b.1)[i]? = some (acc[i] + k * b.1[i]) := by
      unfold addk
      rw [List.getElem?_zipWith, List.getElem?_eq_getElem hi1, List.getElem?_eq_getElem hi2]
    refine ⟨trivial, ?_⟩
    walk_at "w"
    rw [asL_top]
    walk_at "w"
    rw [atD_nat (encI_get (take_get (List.getElem?_eq_getElem hi1) (by omega)))]
    walk_at "w"
    rw [atD_nat (encI_get (List.getElem?_eq_getElem hi2))]
    walk_at "w"
    refine ⟨.inl ⟨hk, hb.bd _ (List.getElem_mem hi2)⟩, ?_⟩
    walk_at "w"
    rw [top_get]
    walk_at "w"
    have hl : (encI ((addk k acc b.1).take i ++ acc.drop i)).length = n := by rw [encI_length, List.length_append, List.length_take, List.length_drop]; omega
    have e1 : ixN (encI ((addk k acc b.1).take i ++ acc.drop i)).length ((i : Nat) : Int) = some i := by
      unfold ixN
      rw [hl, if_pos (by omega), if_pos (by omega), Int.toNat_natCast]
    rw [e1]
    walk_at "w"
    rw [top_set]
    have e2 : (encI ((addk k acc b.1).take i ++ acc.drop i)).set i (.int (acc[i] + k * b.1[i])) = encI ((addk k acc b.1).take (i + 1) ++ acc.drop (i + 1)) := by
      unfold encI
      rw [← take_set hx (by omega), List.map_set]
    have r := inner_put_in hk hb ha hE j (i + 1) (some (.int ((i : Nat) : Int))) (by omega)
    rw [← e2] at r
    exact r
theorem outer_put_in {chk : Own → Prop} {E : DEnds} {O : Own} {d0 d1 : Option D} {n : Nat} (hc : ∀ ds, chk (O ++ [some (.lst ds)])) (hn : n ≤ 1000) : ∀ (ks : List Int) (bs : List Sm) (acc : List Int) (m : Int) (a b c : Option D), BdL 3000 ks → (∀ b ∈ bs, BxOk n b) → acc.length = n →
    (∀ a b c, E.nx [d0, d1, some (.own O.length), some (.int (putAcc ks bs acc m).2), a, b, c] (O ++ [some (.lst (encI (putAcc ks bs acc m).1))])) →
    forL (dgTup 2 (dgCons (dgName 4) (dgCons (dgName 5) dgNil))) (dSeq (dAsg (dOp addD (dVar 3) (dOp mulD (dVar 4) (dOp ixD (dVar 5) (dC (.int 1))))) (dgName 3))
      (dFor (diR1 (dCall1 lenD (dCons (dVar 2) dNil))) (dgName 6) (dAsg (dOp addD (dOp ixD (dVar 2) (dVar 6)) (dOp mulD (dVar 4) (dOp ixD (dOp ixD (dVar 5) (dC (.int 0))) (dVar 6)))) (dgSub (dVar 2) (dVar 6))))) chk E
      (zipD (encI ks) (bs.map encS)) [d0, d1, some (.own O.length), some (.int m), a, b, c] (O ++ [some (.lst (encI acc))])
  | [], bs, acc, m, a, b, c, _, _, _, h => ⟨hc _, by have := h a b c; simpa [putAcc] using this⟩
  | k :: ks, [], acc, m, a, b, c, _, _, _, h => ⟨hc _, by have := h a b c; simpa [putAcc] using this⟩
  | k :: ks, bx :: bs, acc, m, a, b, c, h1, h2, h3, h => by
    refine ⟨hc _, ?_⟩
    have hb := h2 bx List.mem_cons_self
    walk_at "w"
    refine ⟨.inl ⟨h1.head, hb.bd2⟩, ?_⟩
    walk_at "w"
    rw [asL_top]
    walk_at "w"
    rw [encI_length, h3]
    refine ⟨by omega, ?_⟩
    rw [Int.toNat_natCast, rngN_from]
    have hT : (addk k acc bx.1).length = n := by unfold addk; rw [List.length_zipWith, hb.len, h3, Nat.min_self]
    exact inner_put_in h1.head hb h3 (fun x => outer_put_in hc hn ks bs (addk k acc bx.1) (m + k * bx.2) _ _ x h1.tail (fun b hb => h2 b (List.mem_cons_of_mem _ hb)) hT h) n 0 c (by omega)
theorem flat_zero : ∀ n : Nat, (List.replicate n [D.int 0]).flatten = encI (List.replicate n 0)
  | 0 => rfl
  | n + 1 => by rw [List.replicate_succ, List.replicate_succ, List.flatten_cons, flat_zero n]; rfl
theorem sem_put_in (ds : List D) (O : Own) (R : D → Own → Prop) (h : S_put_in ds O R) : R_put_in { nx := fun _ O' => Pure O R .non O', rt := Pure O R } (startD N_put_in ds) O := by
  obtain ⟨s, bs, n, rfl, hl, h0, hn, b1, b2, h⟩ := h
  obtain ⟨b0, bt, rfl⟩ : ∃ b0 bt, bs = b0 :: bt := by
    cases bs with
    | nil => simp at h0
    | cons b bt => exact ⟨b, bt, rfl⟩
  have hb0 := b2 b0 List.mem_cons_self
  walk_at "w"
  rw [encI_length, hb0.len]
  refine ⟨by simp; omega, ?_⟩
  walk_at "w"
  rw [Int.toNat_natCast, flat_zero]
  show (encI s.1).length = _ ∧ _
  refine ⟨by rw [encI_length, List.length_map]; exact hl, ?_⟩
  refine outer_put_in (fun ds => rfl) hn s.1 (b0 :: bt) (List.replicate n 0) s.2 none none none b1 b2 (List.length_replicate ..) fun a b c => ?_
  walk_at "w"
  rw [asL_top]
  walk_at "w"
  exact ⟨_, top_take, .same (encS_hd (putS n s (b0 :: bt))), h⟩
end DL

/-! What the defs of law k01 compute. -/
namespace DL
open PySem L2
local macro_rules | `(tactic| walk_at "w") => `(tactic| conv => whnf)
/-! ### _law_at -/
def cellAt (ns : List Int) (z : Int) : Int := ((if 0 < ns.length then ns.getD (z % ns.length).toNat 0 else 0) + 17 * z) * 48271 % 1000003
theorem cellAt_lo (ns : List Int) (z : Int) : 0 ≤ cellAt ns z := by unfold cellAt; omega
theorem cellAt_hi (ns : List Int) (z : Int) : cellAt ns z < 1000003 := by unfold cellAt; omega
def N_l_at : List Str := ["_law_script", "_law_k", "_law_cell"]
def R_l_at : DS :=
  (dSeq (dAsg (dC (.int 0)) (dgName 2))
  (dSeq (dIfS (dTest (dOp gtD (dCall1 lenD (dCons (dVar 0) dNil)) (dC (.int 0)))) (dAsg (dOp ixD (dVar 0) (dOp modD (dVar 1) (dCall1 lenD (dCons (dVar 0) dNil)))) (dgName 2)) dNext)
  (dRet (dOp modD (dOp mulD (dOp addD (dVar 2) (dOp mulD (dC (.int 17)) (dVar 1))) (dC (.int 48271))) (dC (.int 1000003))))))
def S_l_at : DSp := fun ds O R => ∃ (ns : List Int) (z : Int), ds = [.scr ns, .int z] ∧ 0 ≤ z ∧ R (.int (cellAt ns z)) O
theorem len_l_at (ds : List D) (O : Own) (R : D → Own → Prop) (h : S_l_at ds O R) : ds.length = 2 := by obtain ⟨_, _, rfl, _⟩ := h; rfl
theorem sem_l_at (ds : List D) (O : Own) (R : D → Own → Prop) (h : S_l_at ds O R) : R_l_at { nx := fun _ O' => Pure O R .non O', rt := Pure O R } (startD N_l_at ds) O := by
  obtain ⟨ns, z, rfl, hz, h⟩ := h
  walk_at "w"
  refine ifD (fun h0 => ?_) (fun h0 => ?_)
  · walk_at "w"
    refine ⟨h0, ?_⟩
    have h1 : 0 < ns.length := by omega
    have hm : z % (ns.length : Int) < ns.length := Int.emod_lt_of_pos _ h0
    have hn : 0 ≤ z % (ns.length : Int) := Int.emod_nonneg _ (by omega)
    have e : ns[(z % (ns.length : Int)).toNat]? = some (ns.getD (z % (ns.length : Int)).toNat 0) := by
      rw [List.getD_eq_getElem?_getD, List.getElem?_eq_getElem (by omega)]
      rfl
    have e2 : atD ns (z % (ns.length : Int)) = some (ns.getD (z % (ns.length : Int)).toNat 0) := by
      unfold atD
      rw [if_pos hn]
      exact e
    walk_at "w"
    rw [e2]
    walk_at "w"
    refine ⟨.inr (.inl (by unfold Bd; decide)), ?_⟩
    walk_at "w"
    refine ⟨.inr (.inr (by unfold Bd; decide)), ?_⟩
    walk_at "w"
    refine ⟨(by decide : (0 : Int) < 1000003), Pure.same (.int _) ?_⟩
    have e3 : cellAt ns z = (ns.getD (z % (ns.length : Int)).toNat 0 + 17 * z) * 48271 % 1000003 := by unfold cellAt; rw [if_pos h1]
    rw [e3] at h
    exact h
  · walk_at "w"
    refine ⟨.inr (.inl (by unfold Bd; decide)), ?_⟩
    walk_at "w"
    refine ⟨.inr (.inr (by unfold Bd; decide)), ?_⟩
    walk_at "w"
    refine ⟨(by decide : (0 : Int) < 1000003), Pure.same (.int _) ?_⟩
    have e3 : cellAt ns z = (0 + 17 * z) * 48271 % 1000003 := by unfold cellAt; rw [if_neg (by omega)]
    rw [e3] at h
    exact h
/-! ### _law_whole -/
def N_l_whole : List Str := ["_law_thing"]
def R_l_whole : DS :=
  (dRet (dAndV (dIsi .int (dVar 0)) (dNotV (dIsi .bl (dVar 0)))))
def wholeT : Ty → Bool
  | .int => true
  | _ => false
def S_l_whole : DSp := fun ds O R => ∃ (d : D) (t : Ty), ds = [d] ∧ tyD O d = some t ∧ R (.bl (wholeT t)) O
theorem len_l_whole (ds : List D) (O : Own) (R : D → Own → Prop) (h : S_l_whole ds O R) : ds.length = 1 := by obtain ⟨_, _, rfl, _⟩ := h; rfl
theorem sem_l_whole (ds : List D) (O : Own) (R : D → Own → Prop) (h : S_l_whole ds O R) : R_l_whole { nx := fun _ O' => Pure O R .non O', rt := Pure O R } (startD N_l_whole ds) O := by
  obtain ⟨d, t, rfl, ht, h⟩ := h
  show oK (tyD O d) _
  rw [ht]
  show if isTy t .int = true then _ else _
  cases t with
  | int =>
    show oK (tyD O d) _
    rw [ht]
    exact Pure.same (.bl _) h
  | bl =>
    show oK (tyD O d) _
    rw [ht]
    exact Pure.same (.bl _) h
  | _ => exact Pure.same (.bl _) h
/-! ### _law_value -/
def N_l_value : List Str := ["_law_one", "_law_filling", "_law_found", "_law_k"]
def R_l_value : DS :=
  (dSeq (dAsg (dOp ixD (dVar 0) (dC (.int 1))) (dgName 2))
  (dSeq (dFor (diR1 (dCall1 lenD (dCons (dVar 1) dNil))) (dgName 3) (dAsg (dOp addD (dVar 2) (dOp mulD (dOp ixD (dOp ixD (dVar 0) (dC (.int 0))) (dVar 3)) (dOp ixD (dVar 1) (dVar 3)))) (dgName 2)))
  (dRet (dVar 2))))
def S_l_value : DSp := fun ds O R => ∃ (s : Sm) (fs : List Int), ds = [encS s, .lst (encI fs)] ∧ s.1.length = fs.length ∧ fs.length ≤ 1000 ∧ BdL 3000 s.1 ∧ BdL 3000 fs ∧ R (.int (valS s fs)) O
theorem len_l_value (ds : List D) (O : Own) (R : D → Own → Prop) (h : S_l_value ds O R) : ds.length = 2 := by obtain ⟨_, _, rfl, _⟩ := h; rfl
theorem loop_l_value {chk : Own → Prop} {E : DEnds} {O : Own} {s : Sm} {fs : List Int} (hc : chk O) (hl : s.1.length = fs.length) (b1 : BdL 3000 s.1) (b2 : BdL 3000 fs) : ∀ (j i : Nat) (m : Int) (x : Option D), i + j = fs.length → (∀ x, E.nx [some (encS s), some (.lst (encI fs)), some (.int (m + dot (s.1.drop i) (fs.drop i))), x] O) →
    forL (dgName 3) (dAsg (dOp addD (dVar 2) (dOp mulD (dOp ixD (dOp ixD (dVar 0) (dC (.int 0))) (dVar 3)) (dOp ixD (dVar 1) (dVar 3)))) (dgName 2)) chk E (rngM i j) [some (encS s), some (.lst (encI fs)), some (.int m), x] O
  | 0, i, m, x, hi, h => ⟨hc, by
      have := h x
      rw [List.drop_eq_nil_of_le (by omega)] at this
      simpa [dot] using this⟩
  | j + 1, i, m, x, hi, h => by
    have h1 : i < s.1.length := by omega
    have h2 : i < fs.length := by omega
    refine ⟨hc, ?_⟩
    walk_at "w"
    rw [atD_nat (encI_get (List.getElem?_eq_getElem h1))]
    walk_at "w"
    rw [atD_nat (encI_get (List.getElem?_eq_getElem h2))]
    walk_at "w"
    refine ⟨.inl ⟨b1 _ (List.getElem_mem h1), b2 _ (List.getElem_mem h2)⟩, ?_⟩
    refine loop_l_value hc hl b1 b2 j (i + 1) (m + s.1[i] * fs[i]) _ (by omega) fun x => ?_
    have := h x
    rw [List.drop_eq_getElem_cons h1, List.drop_eq_getElem_cons h2] at this
    rw [Int.add_assoc]
    exact this
theorem sem_l_value (ds : List D) (O : Own) (R : D → Own → Prop) (h : S_l_value ds O R) : R_l_value { nx := fun _ O' => Pure O R .non O', rt := Pure O R } (startD N_l_value ds) O := by
  obtain ⟨s, fs, rfl, hl, hn, b1, b2, h⟩ := h
  walk_at "w"
  rw [encI_length]
  refine ⟨by omega, ?_⟩
  rw [Int.toNat_natCast, rngN_from]
  exact loop_l_value trivial hl b1 b2 fs.length 0 s.2 none (by omega) fun x => Pure.same (.int _) h
/-! ### _law_number -/
def numOf (c m : Int) : Int := if m = 0 then (c - 500000) * 10 ^ 20 else c % (2 * m + 1) - m
def N_l_number : List Str := ["_law_cell", "_law_most"]
def R_l_number : DS :=
  (dSeq (dIfS (dTest (dOp eqD (dVar 1) (dC (.int 0)))) (dRet (dOp mulD (dOp subD (dVar 0) (dC (.int 500000))) (dOp powD (dC (.int 10)) (dC (.int 20))))) dNext)
  (dRet (dOp subD (dOp modD (dVar 0) (dOp addD (dOp mulD (dC (.int 2)) (dVar 1)) (dC (.int 1)))) (dVar 1))))
def S_l_number : DSp := fun ds O R => ∃ (c m : Int), ds = [.int c, .int m] ∧ 0 ≤ c ∧ c < 1000003 ∧ 0 ≤ m ∧ m ≤ 99 ∧ R (.int (numOf c m)) O
theorem len_l_number (ds : List D) (O : Own) (R : D → Own → Prop) (h : S_l_number ds O R) : ds.length = 2 := by obtain ⟨_, _, rfl, _⟩ := h; rfl
theorem num_bd {c m : Int} (h1 : 0 ≤ c) (h2 : c < 1000003) (h3 : 0 ≤ m) (h4 : m ≤ 99) : Bd 100 (numOf c m) := by
  unfold numOf
  by_cases e : m = 0
  · rw [if_pos e]
    have a : Bd 20 (c - 500000) := Bd.of 600000 (by omega) (by decide)
    have b : Bd 70 ((10 : Int) ^ 20) := by unfold Bd; decide
    exact (a.mul b).mono (by decide)
  · rw [if_neg e]
    have a := Int.emod_nonneg c (b := 2 * m + 1) (by omega)
    have b := Int.emod_lt_of_pos c (b := 2 * m + 1) (by omega)
    exact Bd.of 1000 (by omega) (by decide)
theorem sem_l_number (ds : List D) (O : Own) (R : D → Own → Prop) (h : S_l_number ds O R) : R_l_number { nx := fun _ O' => Pure O R .non O', rt := Pure O R } (startD N_l_number ds) O := by
  obtain ⟨c, m, rfl, h1, h2, h3, h4, h⟩ := h
  walk_at "w"
  refine ifD (fun e => ?_) (fun e => ?_)
  · walk_at "w"
    refine ⟨by decide, ?_⟩
    walk_at "w"
    refine ⟨.inr (.inl (Bd.of 600000 (by omega) (by decide))), Pure.same (.int _) ?_⟩
    unfold numOf at h
    rw [if_pos e] at h
    exact h
  · walk_at "w"
    refine ⟨.inr (.inl (by unfold Bd; decide)), ?_⟩
    walk_at "w"
    refine ⟨by omega, Pure.same (.int _) ?_⟩
    unfold numOf at h
    rw [if_neg e] at h
    exact h
/-! ### _law_is_sum -/
def N_l_is_sum : List Str := ["_law_found", "_law_many", "_law_one"]
def R_l_is_sum : DS :=
  (dSeq (dIfS (dOr (dNot (dTest (dIsi .tup (dVar 0)))) (dOr (dTest (dOp neD (dCall1 lenD (dCons (dVar 0) dNil)) (dC (.int 2)))) (dOr (dNot (dTest (dIsi .tup (dOp ixD (dVar 0) (dC (.int 0)))))) (dTest (dOp neD (dCall1 lenD (dCons (dOp ixD (dVar 0) (dC (.int 0))) dNil)) (dVar 1)))))) (dRet (dC (.bl false))) dNext)
  (dRet (dAndV (dCall S_l_whole (dCons (dOp ixD (dVar 0) (dC (.int 1))) dNil)) (dOp eqD (dFrz (dLc (diT (dOp ixD (dVar 0) (dC (.int 0)))) (dgName 2) (dNot (dTest (dCall S_l_whole (dCons (dVar 2) dNil)))) (dVar 2) [2])) (dFrz (dLst dNil))))))
def S_l_is_sum : DSp := fun ds O R => ∃ (s : Sm) (z : Int), ds = [encS s, .int z] ∧ (s.1.length : Int) = z ∧ s.1.length ≤ 1000 ∧ R (.bl true) O
theorem len_l_is_sum (ds : List D) (O : Own) (R : D → Own → Prop) (h : S_l_is_sum ds O R) : ds.length = 2 := by obtain ⟨_, _, rfl, _⟩ := h; rfl
theorem sem_l_is_sum (ds : List D) (O : Own) (R : D → Own → Prop) (h : S_l_is_sum ds O R) : R_l_is_sum { nx := fun _ O' => Pure O R .non O', rt := Pure O R } (startD N_l_is_sum ds) O := by
  obtain ⟨s, z, rfl, hz, hl, h⟩ := h
  walk_at "w"
  refine ifF (by rw [encI_length, hz, decide_eq_true rfl]; rfl) ?_
  refine ⟨.int s.2, .int, rfl, rfl, ?_⟩
  walk_at "w"
  refine lc_filter (fun _ => false) id trivial _ [] (fun d hd Q q => ?_) (fun _ _ e => by cases e) (by rw [encI_length]; simp; omega) ?_
  · obtain ⟨i, _, rfl⟩ := List.mem_map.mp hd
    exact ⟨.int i, .int, rfl, rfl, q⟩
  · rw [List.filter_eq_nil_iff.mpr (fun _ _ e => by cases e)]
    show eqD O (.lst []) (.lst []) (Pure O R)
    exact eqD_self (p := .list []) rfl (Pure.same (.bl _) h)
end DL

/-! What _law_unit and _law_word make: sums within the bounds. -/
namespace DL
open PySem L2
local macro_rules | `(tactic| walk_at "w") => `(tactic| conv => whnf)
/-- a sum over n boxes, as the document bounds it -/
def SmW (n : Nat) (s : Sm) : Prop := s.1.length = n ∧ (∀ x ∈ s.1, -9 ≤ x ∧ x ≤ 9) ∧ -99 ≤ s.2 ∧ s.2 ≤ 99
theorem SmW.bd {n : Nat} {s : Sm} (h : SmW n s) : BdL 60 s.1 := fun x hx => Bd.of 9 (by have := h.2.1 x hx; omega) (by decide)
theorem SmW.bd2 {n : Nat} {s : Sm} (h : SmW n s) : Bd 60 s.2 := Bd.of 99 (by have := h.2.2; omega) (by decide)
def unitS (n b : Nat) (x m : Int) : Sm := ((List.replicate n 0).set b x, m)
theorem unitS_ok {n b : Nat} {x m : Int} (h1 : -9 ≤ x) (h2 : x ≤ 9) (h3 : -99 ≤ m) (h4 : m ≤ 99) : SmW n (unitS n b x m) := ⟨by simp [unitS], fun y hy => by
  rcases List.mem_or_eq_of_mem_set hy with z | z
  · have := List.eq_of_mem_replicate z; omega
  · omega, h3, h4⟩
def N_l_unit : List Str := ["_law_many", "_law_box", "_law_number", "_law_more", "_law_numbers"]
def R_l_unit : DS :=
  (dSeq (dAsg (dNew (dTimes (dFrz (dLst (dCons (dC (.int 0)) dNil))) (dVar 0))) (dgName 4))
  (dSeq (dAsg (dVar 2) (dgSub (dVar 4) (dVar 1)))
  (dRet (dTup (dCons (dCall1 tupleD (dCons (dVar 4) dNil)) (dCons (dVar 3) dNil))))))
def S_l_unit : DSp := fun ds O R => ∃ (n b : Nat) (x m : Int), ds = [.int n, .int b, .int x, .int m] ∧ n ≤ 100 ∧ b < n ∧ R (encS (unitS n b x m)) O
theorem len_l_unit (ds : List D) (O : Own) (R : D → Own → Prop) (h : S_l_unit ds O R) : ds.length = 4 := by obtain ⟨_, _, _, _, rfl, _⟩ := h; rfl
theorem sem_l_unit (ds : List D) (O : Own) (R : D → Own → Prop) (h : S_l_unit ds O R) : R_l_unit { nx := fun _ O' => Pure O R .non O', rt := Pure O R } (startD N_l_unit ds) O := by
  obtain ⟨n, b, x, m, rfl, hn, hb, h⟩ := h
  walk_at "w"
  refine ⟨by simp; omega, ?_⟩
  rw [Int.toNat_natCast, flat_zero]
  walk_at "w"
  rw [top_get]
  walk_at "w"
  have e1 : ixN (encI (List.replicate n 0)).length ((b : Nat) : Int) = some b := by
    unfold ixN
    rw [encI_length, List.length_replicate, if_pos (by omega), if_pos (by omega), Int.toNat_natCast]
  rw [e1]
  walk_at "w"
  rw [top_set]
  have e2 : (encI (List.replicate n 0)).set b (.int x) = encI ((List.replicate n 0).set b x) := by unfold encI; rw [List.map_set]
  rw [e2]
  walk_at "w"
  rw [asL_top]
  walk_at "w"
  exact ⟨_, top_take, .same (encS_hd (unitS n b x m)), h⟩
def N_l_word : List Str := ["_law_cell", "_law_many", "_law_way", "_law_box", "_law_more", "_law_numbers", "_law_k"]
def R_l_word : DS :=
  (dSeq (dAsg (dOp modD (dVar 0) (dC (.int 6))) (dgName 2))
  (dSeq (dAsg (dOp modD (dOp divD (dVar 0) (dC (.int 6))) (dVar 1)) (dgName 3))
  (dSeq (dAsg (dOp modD (dOp divD (dVar 0) (dC (.int 18))) (dC (.int 5))) (dgName 4))
  (dSeq (dIfS (dTest (dOp ltD (dVar 2) (dC (.int 2)))) (dRet (dCall S_l_unit (dCons (dVar 1) (dCons (dVar 3) (dCons (dC (.int 1)) (dCons (negD (dVar 4)) dNil)))))) dNext)
  (dSeq (dIfS (dTest (dOp ltD (dVar 2) (dC (.int 4)))) (dRet (dCall S_l_unit (dCons (dVar 1) (dCons (dVar 3) (dCons (negD (dC (.int 1))) (dCons (dVar 4) dNil)))))) dNext)
  (dSeq (dIfS (dAnd (dTest (dOp eqD (dVar 2) (dC (.int 4)))) (dTest (dOp gtD (dVar 1) (dC (.int 1))))) (dSeq (dAsg (dNew (dList (dOp ixD (dCall S_l_unit (dCons (dVar 1) (dCons (dVar 3) (dCons (dC (.int 1)) (dCons (dC (.int 0)) dNil))))) (dC (.int 0))))) (dgName 5))
  (dSeq (dAsg (negD (dC (.int 1))) (dgSub (dVar 5) (dOp modD (dOp addD (dVar 3) (dC (.int 1))) (dVar 1))))
  (dRet (dTup (dCons (dCall1 tupleD (dCons (dVar 5) dNil)) (dCons (dOp subD (dOp modD (dOp divD (dVar 0) (dC (.int 90))) (dC (.int 5))) (dC (.int 2))) dNil)))))) dNext)
  (dSeq (dIfS (dTest (dOp gtD (dOp modD (dOp divD (dVar 0) (dC (.int 90))) (dC (.int 4))) (dC (.int 0)))) (dRet (dTup (dCons (dCall1 tupleD (dCons (dFrz (dLc (diR1 (dVar 1)) (dgName 6) dYes (dOp subD (dOp modD (dOp divD (dVar 0) (dOp ixD (dFrz (dLst (dCons (dC (.int 18)) (dCons (dC (.int 90)) (dCons (dC (.int 450)) dNil))))) (dVar 6))) (dC (.int 5))) (dC (.int 2))) [6])) dNil)) (dCons (dOp subD (dOp modD (dOp divD (dVar 0) (dC (.int 2250))) (dC (.int 13))) (dC (.int 6))) dNil)))) dNext)
  (dRet (dTup (dCons (dCall1 tupleD (dCons (dFrz (dLc (diR1 (dVar 1)) (dgName 6) dYes (dOp subD (dOp modD (dOp divD (dVar 0) (dOp ixD (dFrz (dLst (dCons (dC (.int 18)) (dCons (dC (.int 342)) (dCons (dC (.int 6498)) dNil))))) (dVar 6))) (dC (.int 19))) (dC (.int 9))) [6])) dNil)) (dCons (dOp subD (dOp modD (dOp divD (dVar 0) (dC (.int 7))) (dC (.int 199))) (dC (.int 99))) dNil)))))))))))
def S_l_word : DSp := fun ds O R => ∃ (c : Int) (n : Nat), ds = [.int c, .int n] ∧ 0 ≤ c ∧ 1 ≤ n ∧ n ≤ 3 ∧ ∀ s, SmW n s → R (encS s) O
theorem len_l_word (ds : List D) (O : Own) (R : D → Own → Prop) (h : S_l_word ds O R) : ds.length = 2 := by obtain ⟨_, _, rfl, _⟩ := h; rfl
theorem sem_l_word (ds : List D) (O : Own) (R : D → Own → Prop) (h : S_l_word ds O R) : R_l_word { nx := fun _ O' => Pure O R .non O', rt := Pure O R } (startD N_l_word ds) O := by
  obtain ⟨c, n, rfl, hc, hn1, hn3, h⟩ := h
  walk_at "w"
  refine ⟨(by decide : (0 : Int) < 6), ?_⟩
  walk_at "w"
  refine ⟨(by decide : (0 : Int) < 6 ∧ (6 : Int) < _), ?_⟩
  walk_at "w"
  refine ⟨(by omega : (0 : Int) < n), ?_⟩
  walk_at "w"
  refine ⟨(by decide : (0 : Int) < 18 ∧ (18 : Int) < _), ?_⟩
  walk_at "w"
  refine ⟨(by decide : (0 : Int) < 5), ?_⟩
  have b1 := Int.emod_nonneg (c / 6) (b := (n : Int)) (by omega)
  have b2 := Int.emod_lt_of_pos (c / 6) (b := (n : Int)) (by omega)
  obtain ⟨b, hb⟩ : ∃ b : Nat, c / 6 % (n : Int) = (b : Int) := ⟨(c / 6 % (n : Int)).toNat, by omega⟩
  rw [hb] at b2
  have bn : b < n := by omega
  have q5 := Int.emod_nonneg (c / 18) (b := 5) (by decide)
  have q6 := Int.emod_lt_of_pos (c / 18) (b := 5) (by decide)
  walk_at "w"
  refine ifD (fun _ => ?_) (fun _ => ?_)
  · refine ⟨n, b, 1, -(c / 18 % 5), (by show [D.int n, .int (c / 6 % n), .int 1, .int (-(c / 18 % 5))] = _; rw [hb]), by omega, bn, Pure.same (encS_hd _) (h _ (unitS_ok (by decide) (by decide) (by omega) (by omega)))⟩
  walk_at "w"
  refine ifD (fun _ => ?_) (fun _ => ?_)
  · refine ⟨n, b, -1, c / 18 % 5, (by show [D.int n, .int (c / 6 % n), .int (-1), .int (c / 18 % 5)] = _; rw [hb]), by omega, bn, Pure.same (encS_hd _) (h _ (unitS_ok (by decide) (by decide) (by omega) (by omega)))⟩
  have rest : (dSeq
                      (dIfS
                        (dTest (dOp gtD (dOp modD (dOp divD (dVar 0) (dC (D.int 90))) (dC (D.int 4))) (dC (D.int 0))))
                        (dRet (dTup (dCons (dCall1 tupleD (dCons (dFrz (dLc (diR1 (dVar 1)) (dgName 6) dYes (dOp subD (dOp modD (dOp divD (dVar 0) (dOp ixD (dFrz (dLst (dCons (dC (.int 18)) (dCons (dC (.int 90)) (dCons (dC (.int 450)) dNil))))) (dVar 6))) (dC (.int 5))) (dC (.int 2))) [6])) dNil)) (dCons (dOp subD (dOp modD (dOp divD (dVar 0) (dC (.int 2250))) (dC (.int 13))) (dC (.int 6))) dNil)))) dNext)
  (dRet (dTup (dCons (dCall1 tupleD (dCons (dFrz (dLc (diR1 (dVar 1)) (dgName 6) dYes (dOp subD (dOp modD (dOp divD (dVar 0) (dOp ixD (dFrz (dLst (dCons (dC (.int 18)) (dCons (dC (.int 342)) (dCons (dC (.int 6498)) dNil))))) (dVar 6))) (dC (.int 19))) (dC (.int 9))) [6])) dNil)) (dCons (dOp subD (dOp modD (dOp divD (dVar 0) (dC (.int 7))) (dC (.int 199))) (dC (.int 99))) dNil))))) { nx := fun _ O' => Pure O R .non O', rt := Pure O R } [some (.int c), some (.int n), some (.int (c % 6)), some (.int (c / 6 % n)), some (.int (c / 18 % 5)), none, none] O := by
    walk_at "w"
    refine ⟨(by decide : (0 : Int) < 90 ∧ (90 : Int) < _), ?_⟩
    walk_at "w"
    refine ⟨(by decide : (0 : Int) < 4), ?_⟩
    refine ifD (fun _ => ?_) (fun _ => ?_)
    · walk_at "w"
      refine ⟨by omega, ?_⟩
      rw [Int.toNat_natCast]
      refine lc_rng (fun j => .int (c / [18, 90, 450].getD j 1 % 5 - 2)) trivial (by omega) (fun j hj Q q => ?_) ?_
      · have : j = 0 ∨ j = 1 ∨ j = 2 := by omega
        rcases this with rfl | rfl | rfl
        · exact ⟨(by decide : (0 : Int) < 18 ∧ (18 : Int) < _), (by decide : (0 : Int) < 5), q⟩
        · exact ⟨(by decide : (0 : Int) < 90 ∧ (90 : Int) < _), (by decide : (0 : Int) < 5), q⟩
        · exact ⟨(by decide : (0 : Int) < 450 ∧ (450 : Int) < _), (by decide : (0 : Int) < 5), q⟩
      have e9 : (List.range n).map (fun j : Nat => D.int (c / [18, 90, 450].getD j 1 % 5 - 2)) = encI ((List.range n).map fun j : Nat => c / [18, 90, 450].getD j 1 % 5 - 2) := by rw [encI, List.map_map]; rfl
      rw [e9]
      walk_at "w"
      refine ⟨(by decide : (0 : Int) < 2250 ∧ (2250 : Int) < _), ?_⟩
      walk_at "w"
      refine ⟨(by decide : (0 : Int) < 13), ?_⟩
      refine Pure.same (encS_hd (_, c / 2250 % 13 - 6)) (h (_, c / 2250 % 13 - 6) ⟨by simp, fun x hx => ?_, by omega, by omega⟩)
      obtain ⟨j, _, rfl⟩ := List.mem_map.mp hx
      omega
    · walk_at "w"
      refine ⟨by omega, ?_⟩
      rw [Int.toNat_natCast]
      refine lc_rng (fun j => .int (c / [18, 342, 6498].getD j 1 % 19 - 9)) trivial (by omega) (fun j hj Q q => ?_) ?_
      · have : j = 0 ∨ j = 1 ∨ j = 2 := by omega
        rcases this with rfl | rfl | rfl
        · exact ⟨(by decide : (0 : Int) < 18 ∧ (18 : Int) < _), (by decide : (0 : Int) < 19), q⟩
        · exact ⟨(by decide : (0 : Int) < 342 ∧ (342 : Int) < _), (by decide : (0 : Int) < 19), q⟩
        · exact ⟨(by decide : (0 : Int) < 6498 ∧ (6498 : Int) < _), (by decide : (0 : Int) < 19), q⟩
      have e9 : (List.range n).map (fun j : Nat => D.int (c / [18, 342, 6498].getD j 1 % 19 - 9)) = encI ((List.range n).map fun j : Nat => c / [18, 342, 6498].getD j 1 % 19 - 9) := by rw [encI, List.map_map]; rfl
      rw [e9]
      walk_at "w"
      refine ⟨(by decide : (0 : Int) < 7 ∧ (7 : Int) < _), ?_⟩
      walk_at "w"
      refine ⟨(by decide : (0 : Int) < 199), ?_⟩
      refine Pure.same (encS_hd (_, c / 7 % 199 - 99)) (h (_, c / 7 % 199 - 99) ⟨by simp, fun x hx => ?_, by omega, by omega⟩)
      obtain ⟨j, _, rfl⟩ := List.mem_map.mp hx
      omega
  walk_at "w"
  refine ifD (fun _ => ?_) (fun _ => ?_)
  · walk_at "w"
    refine ifD (fun _ => ?_) (fun _ => rest)
    refine ⟨n, b, 1, 0, (by show [D.int n, .int (c / 6 % n), .int 1, .int 0] = _; rw [hb]), by omega, bn, ?_⟩
    walk_at "w"
    refine ⟨(by omega : (0 : Int) < n), ?_⟩
    walk_at "w"
    rw [top_get]
    have c1 := Int.emod_nonneg (c / 6 % (n : Int) + 1) (b := (n : Int)) (by omega)
    have c2 := Int.emod_lt_of_pos (c / 6 % (n : Int) + 1) (b := (n : Int)) (by omega)
    obtain ⟨k, hk⟩ : ∃ k : Nat, (c / 6 % (n : Int) + 1) % (n : Int) = (k : Int) := ⟨((c / 6 % (n : Int) + 1) % (n : Int)).toNat, by omega⟩
    rw [hk] at c2
    walk_at "w"
    have e1 : ixN (encI (unitS n b 1 0).1).length ((c / 6 % (n : Int) + 1) % (n : Int)) = some k := by
      unfold ixN
      rw [hk, encI_length, (unitS_ok (n := n) (b := b) (x := 1) (m := 0) (by decide) (by decide) (by decide) (by decide)).1, if_pos (by omega), if_pos (by omega), Int.toNat_natCast]
    rw [e1]
    walk_at "w"
    rw [top_set]
    have e2 : (encI (unitS n b 1 0).1).set k (.int (-1)) = encI ((unitS n b 1 0).1.set k (-1)) := by unfold encI; rw [List.map_set]
    rw [e2]
    walk_at "w"
    rw [asL_top]
    walk_at "w"
    refine ⟨(by decide : (0 : Int) < 90 ∧ (90 : Int) < _), ?_⟩
    walk_at "w"
    refine ⟨(by decide : (0 : Int) < 5), ?_⟩
    have u := unitS_ok (n := n) (b := b) (x := 1) (m := 0) (by decide) (by decide) (by decide) (by decide)
    refine ⟨_, top_take, .same (encS_hd ((unitS n b 1 0).1.set k (-1), c / 90 % 5 - 2)), h ((unitS n b 1 0).1.set k (-1), c / 90 % 5 - 2) ⟨by rw [List.length_set]; exact u.1, fun x hx => ?_, by omega, by omega⟩⟩
    rcases List.mem_or_eq_of_mem_set hx with z | z
    · exact u.2.1 x z
    · omega
  · exact rest
end DL

/-! Trees: what least, over, with_pair, widest, tried, is_tree compute. -/
namespace DL
open PySem L2
local macro_rules | `(tactic| walk_at "w") => `(tactic| conv => whnf)
theorem asL_cases {O : Own} {d : D} {ds : List D} (h : asL O d = some ds) : d = .lst ds ∨ ∃ k, d = .own k ∧ asL O (.own k) = some ds := by
  cases d with
  | lst es => cases h; exact .inl rfl
  | own k => exact .inr ⟨k, rfl, h⟩
  | _ => cases h
abbrev Pr := Int × Int
def encP (p : Pr) : D := .tup [.int p.1, .int p.2]
def encSt (st : List Pr) : List D := st.map encP
theorem encSt_length (st : List Pr) : (encSt st).length = st.length := List.length_map ..
theorem encSt_get {st : List Pr} {i : Nat} {p : Pr} (h : st[i]? = some p) : (encSt st)[i]? = some (encP p) := by unfold encSt; rw [List.getElem?_map, h]; rfl
theorem encSt_hd {n : Nat} (st : List Pr) : HdL n (encSt st) := HdL.of fun d hd => by
  obtain ⟨p, _, rfl⟩ := List.mem_map.mp hd
  exact .tup (.cons (.int _) (.cons (.int _) .nil))
def mn (i j : Int) : Int := if j < i then j else i
def ldot : List Int → List Pr → Int
  | a :: as, p :: ps => mn (a * p.1) (a * p.2) + ldot as ps
  | _, _ => 0
def leastS (s : Sm) (st : List Pr) : Int := s.2 + ldot s.1 st
def N_least : List Str := ["one", "stretch", "found", "number", "pair"]
def R_least : DS :=
  (dSeq (dAsg (dOp ixD (dVar 0) (dC (.int 1))) (dgName 2))
  (dSeq (dFor (diZipT (dOp ixD (dVar 0) (dC (.int 0))) (dVar 1)) (dgTup 2 (dgCons (dgName 3) (dgCons (dgName 4) dgNil))) (dAsg (dOp addD (dVar 2) (dCall1 min2D (dCons (dOp mulD (dVar 3) (dOp ixD (dVar 4) (dC (.int 0)))) (dCons (dOp mulD (dVar 3) (dOp ixD (dVar 4) (dC (.int 1)))) dNil)))) (dgName 2)))
  (dRet (dVar 2))))
def S_least : DSp := fun ds O R => ∃ (s : Sm) (st : List Pr) (d2 : D), ds = [encS s, d2] ∧ asL O d2 = some (encSt st) ∧ s.1.length = st.length ∧ BdL 60 s.1 ∧ R (.int (leastS s st)) O
theorem len_least (ds : List D) (O : Own) (R : D → Own → Prop) (h : S_least ds O R) : ds.length = 2 := by obtain ⟨_, _, _, rfl, _⟩ := h; rfl
theorem loop_least {chk : Own → Prop} {E : DEnds} {O : Own} {d1 d2 : Option D} (hc : chk O) : ∀ (ns : List Int) (st : List Pr) (m : Int) (a b : Option D), BdL 60 ns → (∀ a b, E.nx [d1, d2, some (.int (m + ldot ns st)), a, b] O) →
    forL (dgTup 2 (dgCons (dgName 3) (dgCons (dgName 4) dgNil))) (dAsg (dOp addD (dVar 2) (dCall1 min2D (dCons (dOp mulD (dVar 3) (dOp ixD (dVar 4) (dC (.int 0)))) (dCons (dOp mulD (dVar 3) (dOp ixD (dVar 4) (dC (.int 1)))) dNil)))) (dgName 2)) chk E (zipD (encI ns) (encSt st)) [d1, d2, some (.int m), a, b] O
  | [], st, m, a, b, _, h => ⟨hc, by have := h a b; simpa [ldot] using this⟩
  | n :: ns, [], m, a, b, _, h => ⟨hc, by have := h a b; simpa [ldot] using this⟩
  | n :: ns, p :: st, m, a, b, b1, h => by
    refine ⟨hc, ?_⟩
    walk_at "w"
    refine ⟨.inr (.inl (b1.head.mono (by decide))), ?_⟩
    walk_at "w"
    refine ⟨.inr (.inl (b1.head.mono (by decide))), ?_⟩
    refine loop_least hc ns st (m + mn (n * p.1) (n * p.2)) _ _ b1.tail fun a b => ?_
    rw [Int.add_assoc]
    exact h a b
theorem sem_least (ds : List D) (O : Own) (R : D → Own → Prop) (h : S_least ds O R) : R_least { nx := fun _ O' => Pure O R .non O', rt := Pure O R } (startD N_least ds) O := by
  obtain ⟨s, st, d2, rfl, h2, hl, b1, h⟩ := h
  walk_at "w"
  rw [h2]
  refine ⟨by rw [encI_length, encSt_length]; exact hl, ?_⟩
  exact loop_least h2 s.1 st s.2 none none b1 fun a b => Pure.same (.int _) h
/-! ### over -/
def SmOk (n : Nat) (s : Sm) : Prop := s.1.length = n ∧ BdL 60 s.1 ∧ Bd 60 s.2
def encSs (ss : List Sm) : List D := ss.map encS
theorem encSs_length (ss : List Sm) : (encSs ss).length = ss.length := List.length_map ..
theorem encSs_get {ss : List Sm} {i : Nat} {p : Sm} (h : ss[i]? = some p) : (encSs ss)[i]? = some (encS p) := by unfold encSs; rw [List.getElem?_map, h]; rfl
def overS (st : List Pr) (ss : List Sm) : Nat := ss.findIdx fun s => decide (0 < leastS s st)
def N_over : List Str := ["stretch", "some", "at"]
def R_over : DS :=
  (dSeq (dFor (diR1 (dCall1 lenD (dCons (dVar 1) dNil))) (dgName 2) (dIfS (dTest (dOp gtD (dCall S_least (dCons (dOp ixD (dVar 1) (dVar 2)) (dCons (dVar 0) dNil))) (dC (.int 0)))) (dRet (dVar 2)) dNext))
  (dRet (dCall1 lenD (dCons (dVar 1) dNil))))
def S_over : DSp := fun ds O R => ∃ (st : List Pr) (ss : List Sm) (d1 d2 : D), ds = [d1, d2] ∧ asL O d1 = some (encSt st) ∧ asL O d2 = some (encSs ss) ∧ ss.length ≤ 1000 ∧ (∀ s ∈ ss, SmOk st.length s) ∧ R (.int (overS st ss : Nat)) O
theorem len_over (ds : List D) (O : Own) (R : D → Own → Prop) (h : S_over ds O R) : ds.length = 2 := by obtain ⟨_, _, _, _, rfl, _⟩ := h; rfl
theorem sem_over (ds : List D) (O : Own) (R : D → Own → Prop) (h : S_over ds O R) : R_over { nx := fun _ O' => Pure O R .non O', rt := Pure O R } (startD N_over ds) O := by
  obtain ⟨st, ss, d1, d2, rfl, h1, h2, hn, hs, h⟩ := h
  rcases asL_cases h2 with rfl | ⟨k, rfl, -⟩
  all_goals
    walk_at "w"
    try rw [h2]
    try walk_at "w"
    rw [encSs_length]
    refine ⟨by omega, ?_⟩
    rw [Int.toNat_natCast]
    refine forL_rng ss.length (fun j δ O' => O' = O ∧ (∃ c, δ = [some d1, some _, c]) ∧ ∀ i : Nat, i < j → ∀ s, ss[i]? = some s → ¬ 0 < leastS s st) ⟨rfl, ⟨_, rfl⟩, fun i hi => by omega⟩ (fun _ _ _ _ => trivial) ?_ ?_
    · rintro j δ O' nx hj ⟨rfl, ⟨c, rfl⟩, hb⟩ hx
      have gj : ss[j]? = some ss[j] := List.getElem?_eq_getElem hj
      walk_at "w"
      try rw [h2]
      try walk_at "w"
      rw [atD_nat (encSs_get gj)]
      obtain ⟨l1, l2, _⟩ := hs _ (List.getElem_mem hj)
      refine ⟨ss[j], st, d1, rfl, h1, l1, l2, ?_⟩
      refine ifD (fun e => ?_) (fun e => ?_)
      · have : overS st ss = j := by
          refine (List.findIdx_eq hj).mpr ⟨decide_eq_true e, fun i hi => ?_⟩
          exact decide_eq_false (hb i hi _ (List.getElem?_eq_getElem (by omega)))
        rw [this] at h
        exact Pure.same (.int _) h
      · refine hx _ _ ⟨rfl, ⟨_, rfl⟩, fun i hi s q => ?_⟩
        by_cases z : i = j
        · subst z; rw [gj] at q; cases q; exact e
        · exact hb i (by omega) s q
    · rintro δ O' ⟨rfl, ⟨c, rfl⟩, hb⟩
      walk_at "w"
      try rw [h2]
      try walk_at "w"
      have : overS st ss = ss.length := List.findIdx_eq_length_of_false fun x hx => by
        obtain ⟨i, hi, rfl⟩ := List.mem_iff_getElem.mp hx
        exact decide_eq_false (hb i hi _ (List.getElem?_eq_getElem hi))
      rw [this] at h
      rw [← encSs_length] at h
      exact Pure.same (.int _) h
/-! ### with_pair -/
def N_with_pair : List Str := ["stretch", "box", "pair"]
def R_with_pair : DS :=
  (dRet (dOp addD (dOp addD (dSl (dVar 0) dNoPart (dPart (dVar 1))) (dFrz (dLst (dCons (dVar 2) dNil)))) (dSl (dVar 0) (dPart (dOp addD (dVar 1) (dC (.int 1)))) dNoPart)))
def S_with_pair : DSp := fun ds O R => ∃ (st : List Pr) (b : Nat) (p : Pr) (d1 : D), ds = [d1, .int b, encP p] ∧ asL O d1 = some (encSt st) ∧ b < st.length ∧ st.length ≤ 1000 ∧ R (.lst (encSt (st.set b p))) O
theorem len_with_pair (ds : List D) (O : Own) (R : D → Own → Prop) (h : S_with_pair ds O R) : ds.length = 3 := by obtain ⟨_, _, _, _, rfl, _⟩ := h; rfl
theorem cut_lo {ds : List D} {b : Nat} (h : b ≤ ds.length) : cutD ds none (some ((b : Nat) : Int)) = ds.take b := by
  unfold cutD
  rw [HT.sIx_none, HT.sIx_nat, Nat.min_eq_left h]
  rfl
theorem cut_hi {ds : List D} {b : Nat} (h : b ≤ ds.length) : cutD ds (some ((b : Nat) : Int)) none = ds.drop b := by
  unfold cutD
  rw [HT.sIx_none, HT.sIx_nat, Nat.min_eq_left h, List.take_of_length_le (by rw [List.length_drop]; omega)]
theorem cut_set {st : List Pr} {b : Nat} {p : Pr} (h : b < st.length) : cutD (encSt st) none (some ((b : Nat) : Int)) ++ [encP p] ++ cutD (encSt st) (some (((b : Nat) : Int) + 1)) none = encSt (st.set b p) := by
  have e : ((b : Nat) : Int) + 1 = ((b + 1 : Nat) : Int) := rfl
  rw [e, cut_lo (by rw [encSt_length]; omega), cut_hi (by rw [encSt_length]; omega)]
  unfold encSt
  rw [List.map_set, List.set_eq_take_append_cons_drop, if_pos (by rw [List.length_map]; exact h), List.append_assoc]
  rfl
theorem sem_with_pair (ds : List D) (O : Own) (R : D → Own → Prop) (h : S_with_pair ds O R) : R_with_pair { nx := fun _ O' => Pure O R .non O', rt := Pure O R } (startD N_with_pair ds) O := by
  obtain ⟨st, b, p, d1, rfl, h1, hb, hl, h⟩ := h
  have l1 : (cutD (encSt st) none (some ((b : Nat) : Int))).length = b := by rw [cut_lo (by rw [encSt_length]; omega), List.length_take, encSt_length]; omega
  have l2 : (cutD (encSt st) (some (((b : Nat) : Int) + 1)) none).length ≤ 1000 := by
    have e : ((b : Nat) : Int) + 1 = ((b + 1 : Nat) : Int) := rfl
    rw [e, cut_hi (by rw [encSt_length]; omega), List.length_drop, encSt_length]
    omega
  rcases asL_cases h1 with rfl | ⟨k, rfl, -⟩
  all_goals
    walk_at "w"
    try rw [h1]
    try walk_at "w"
    refine ⟨by rw [l1]; simp; omega, ?_⟩
    walk_at "w"
    try rw [h1]
    try walk_at "w"
    refine ⟨by rw [List.length_append, l1]; simp; omega, ?_⟩
    rw [cut_set hb]
    exact Pure.same (.lst (encSt_hd _)) h
end DL

namespace DL
open PySem L2
local macro_rules | `(tactic| walk_at "w") => `(tactic| conv => whnf)
/-! ### widest -/
def N_widest : List Str := ["stretch", "wide", "pair"]
def R_widest : DS :=
  (dSeq (dAsg (dFrz (dLc (diL (dVar 0)) (dgName 2) dYes (dOp subD (dOp ixD (dVar 2) (dC (.int 1))) (dOp ixD (dVar 2) (dC (.int 0)))) [2])) (dgName 1))
  (dRet (dIdx (dVar 1) (dCall1 maxD (dCons (dVar 1) dNil)))))
def S_widest : DSp := fun ds O R => ∃ (st : List Pr) (d1 : D), ds = [d1] ∧ asL O d1 = some (encSt st) ∧ 0 < st.length ∧ st.length ≤ 1000 ∧
  ∀ (b : Nat) (p : Pr), st[b]? = some p → (∀ q ∈ st, q.2 - q.1 ≤ p.2 - p.1) → R (.int (b : Nat)) O
theorem len_widest (ds : List D) (O : Own) (R : D → Own → Prop) (h : S_widest ds O R) : ds.length = 1 := by obtain ⟨_, _, rfl, _⟩ := h; rfl
theorem first_of {y : Int} : ∀ {ns : List Int}, y ∈ ns → ∃ j : Nat, ns[j]? = some y ∧ ∀ i : Nat, i < j → ns[i]? ≠ some y
  | [], h => by cases h
  | x :: ns, h => by
    by_cases e : x = y
    · exact ⟨0, by rw [e]; rfl, fun i hi => by omega⟩
    · obtain ⟨j, h1, h2⟩ := first_of (ns := ns) ((List.mem_cons.mp h).resolve_left fun z => e z.symm)
      refine ⟨j + 1, h1, fun i hi => ?_⟩
      cases i with
      | zero => intro z; exact e (Option.some.inj z)
      | succ i => exact h2 i (by omega)
theorem max_of : ∀ (ns : List Int), 0 < ns.length → ∃ k, k ∈ ns ∧ ∀ y ∈ ns, y ≤ k
  | [], h => by simp at h
  | [x], _ => ⟨x, List.mem_cons_self, fun y hy => by simp at hy; omega⟩
  | x :: y :: ns, _ => by
    obtain ⟨k, h1, h2⟩ := max_of (y :: ns) (by simp)
    by_cases e : x ≤ k
    · exact ⟨k, List.mem_cons_of_mem _ h1, fun z hz => (List.mem_cons.mp hz).elim (fun q => by omega) (h2 z)⟩
    · exact ⟨x, List.mem_cons_self, fun z hz => (List.mem_cons.mp hz).elim (fun q => by omega) (fun q => by have := h2 z q; omega)⟩
theorem sem_widest (ds : List D) (O : Own) (R : D → Own → Prop) (h : S_widest ds O R) : R_widest { nx := fun _ O' => Pure O R .non O', rt := Pure O R } (startD N_widest ds) O := by
  obtain ⟨st, d1, rfl, h1, h0, hn, h⟩ := h
  walk_at "w"
  rw [h1]
  refine lc_list encP (fun p => .int (p.2 - p.1)) h1 st [] (fun p _ Q q => q) (by simp; omega) ?_
  have e : ([] : List D) ++ st.map (fun p => D.int (p.2 - p.1)) = (st.map fun p => p.2 - p.1).map D.int := by rw [List.map_map]; rfl
  rw [e]
  walk_at "w"
  rw [intsD_map]
  refine ⟨by simpa using h0, fun k hk hm => ?_⟩
  walk_at "w"
  rw [intsD_map]
  obtain ⟨j, j1, j2⟩ := first_of hk
  refine ⟨j, j1, j2, Pure.same (.int _) ?_⟩
  rw [List.getElem?_map] at j1
  cases g : st[j]? with
  | none => rw [g] at j1; cases j1
  | some p =>
    rw [g] at j1
    cases j1
    exact h j p g fun q hq => hm _ (List.mem_map.mpr ⟨q, hq, rfl⟩)
/-! ### trees -/
inductive Tr where
  | sum (i : Int) | cut (b m : Int) (l r : Tr)
def Tr.dep : Tr → Nat
  | .sum _ => 1
  | .cut _ _ l r => 1 + max l.dep r.dep
def encT : Tr → D
  | .sum i => .tup [.str "sum", .int i]
  | .cut b m l r => .tup [.str "cut", .int b, .int m, encT l, encT r]
def isT (ss : List Sm) : List Pr → Tr → Bool
  | st, .sum i => if 0 ≤ i ∧ i < ss.length then decide (0 < leastS (ss.getD i.toNat ([], 0)) st) else false
  | st, .cut b m l r => if 0 ≤ b ∧ b < st.length then
      if (st.getD b.toNat (0, 0)).1 ≤ m ∧ m < (st.getD b.toNat (0, 0)).2 then isT ss (st.set b.toNat ((st.getD b.toNat (0, 0)).1, m)) l && isT ss (st.set b.toNat (m + 1, (st.getD b.toNat (0, 0)).2)) r else false
    else false
theorem encT_non (t : Tr) : isNon (encT t) = false := by cases t <;> rfl
theorem encT_hd {n : Nat} : ∀ t : Tr, Hd n (encT t)
  | .sum i => .tup (.cons (.str _) (.cons (.int _) .nil))
  | .cut b m l r => .tup (.cons (.str _) (.cons (.int _) (.cons (.int _) (.cons (encT_hd l) (.cons (encT_hd r) .nil)))))
/-- a filling in a stretch -/
def inSt : List Int → List Pr → Prop
  | [], [] => True
  | x :: f, p :: st => p.1 ≤ x ∧ x ≤ p.2 ∧ inSt f st
  | _, _ => False
def wid : List Pr → Nat
  | [] => 0
  | p :: st => (p.2 - p.1).toNat + wid st
theorem wid_set : ∀ {st : List Pr} {b : Nat} {p q : Pr}, st[b]? = some p → (q.2 - q.1).toNat < (p.2 - p.1).toNat → wid (st.set b q) < wid st
  | [], b, p, q, h, _ => by cases h
  | r :: st, 0, p, q, h, l => by cases h; show _ + wid st < _ + wid st; omega
  | r :: st, b + 1, p, q, h, l => by
    have := wid_set (st := st) (b := b) (p := p) (q := q) h l
    show _ + wid (st.set b q) < _ + wid st
    omega
theorem inSt_set : ∀ {st : List Pr} {b : Nat} {p q : Pr} {f : List Int}, st[b]? = some p → p.1 ≤ q.1 → q.2 ≤ p.2 → inSt f (st.set b q) → inSt f st
  | [], b, p, q, f, h, _, _, _ => by cases h
  | r :: st, 0, p, q, [], h, _, _, g => g.elim
  | r :: st, 0, p, q, x :: f, h, l, u, g => by
    cases h
    obtain ⟨g1, g2, g3⟩ := g
    exact ⟨by omega, by omega, g3⟩
  | r :: st, b + 1, p, q, [], h, _, _, g => g.elim
  | r :: st, b + 1, p, q, x :: f, h, l, u, g => by
    obtain ⟨g1, g2, g3⟩ := g
    exact ⟨g1, g2, inSt_set (st := st) h l u g3⟩
theorem inSt_point : ∀ {st : List Pr}, (∀ p ∈ st, p.1 = p.2) → inSt (st.map (·.1)) st
  | [], _ => trivial
  | p :: st, h => ⟨Int.le_refl _, Int.le_of_eq (h p List.mem_cons_self), inSt_point fun q hq => h q (List.mem_cons_of_mem _ hq)⟩
theorem least_point : ∀ (ns : List Int) (st : List Pr), (∀ p ∈ st, p.1 = p.2) → ldot ns st = dot ns (st.map (·.1))
  | [], st, _ => by unfold ldot dot; rfl
  | n :: ns, [], _ => by unfold ldot dot; rfl
  | n :: ns, p :: st, h => by
    have e := h p List.mem_cons_self
    show mn (n * p.1) (n * p.2) + ldot ns st = n * p.1 + dot ns (st.map (·.1))
    rw [least_point ns st fun q hq => h q (List.mem_cons_of_mem _ hq), ← e]
    unfold mn
    rw [if_neg (by omega)]
end DL

namespace DL
open PySem L2
local macro_rules | `(tactic| walk_at "w") => `(tactic| conv => whnf)
/-! ### tried -/
structure StOk (st : List Pr) (ss : List Sm) : Prop where
  pos : 0 < st.length
  few : st.length ≤ 100
  ssf : ss.length ≤ 1000
  ok : ∀ s ∈ ss, SmOk st.length s
  le : ∀ p ∈ st, p.1 ≤ p.2
theorem StOk.set {st : List Pr} {ss : List Sm} (h : StOk st ss) (b : Nat) {q : Pr} (e : q.1 ≤ q.2) : StOk (st.set b q) ss := ⟨by rw [List.length_set]; exact h.pos, by rw [List.length_set]; exact h.few, h.ssf, by rw [List.length_set]; exact h.ok, fun p hp => by
  rcases List.mem_or_eq_of_mem_set hp with z | z
  · exact h.le p z
  · rw [z]; exact e⟩
def S_tried : Nat → DSp
  | 0 => fun _ _ _ => False
  | n + 1 => fun ds O R => ∃ (st : List Pr) (ss : List Sm) (d1 d2 : D), ds = [d1, d2] ∧ asL O d1 = some (encSt st) ∧ asL O d2 = some (encSs ss) ∧ StOk st ss ∧ wid st < n + 1 ∧
    (∀ t : Tr, isT ss st t = true → t.dep ≤ n + 1 → R (.tup [encT t, .non]) O) ∧ ∀ f : List Int, inSt f st → (∀ s ∈ ss, valS s f ≤ 0) → R (.tup [.non, .lst (encI f)]) O
def N_tried : List Str := ["stretch", "some", "at", "box", "pair", "one", "middle", "below", "above"]
def R_tried (n : Nat) : DS :=
  (dSeq (dAsg (dCall S_over (dCons (dVar 0) (dCons (dVar 1) dNil))) (dgName 2))
  (dSeq (dIfS (dTest (dOp ltD (dVar 2) (dCall1 lenD (dCons (dVar 1) dNil)))) (dRet (dTup (dCons (dTup (dCons (dC (.str "sum")) (dCons (dVar 2) dNil))) (dCons (dC .non) dNil)))) dNext)
  (dSeq (dAsg (dCall S_widest (dCons (dVar 0) dNil)) (dgName 3))
  (dSeq (dAsg (dOp ixD (dVar 0) (dVar 3)) (dgName 4))
  (dSeq (dIfS (dTest (dOp eqD (dOp ixD (dVar 4) (dC (.int 0))) (dOp ixD (dVar 4) (dC (.int 1))))) (dRet (dTup (dCons (dC .non) (dCons (dFrz (dLc (diL (dVar 0)) (dgName 5) dYes (dOp ixD (dVar 5) (dC (.int 0))) [5])) dNil)))) dNext)
  (dSeq (dAsg (dOp divD (dOp addD (dOp ixD (dVar 4) (dC (.int 0))) (dOp ixD (dVar 4) (dC (.int 1)))) (dC (.int 2))) (dgName 6))
  (dSeq (dAsg (dCall (S_tried n) (dCons (dCall S_with_pair (dCons (dVar 0) (dCons (dVar 3) (dCons (dTup (dCons (dOp ixD (dVar 4) (dC (.int 0))) (dCons (dVar 6) dNil))) dNil)))) (dCons (dVar 1) dNil))) (dgName 7))
  (dSeq (dIfS (dTest (dOp isD (dOp ixD (dVar 7) (dC (.int 0))) (dC .non))) (dRet (dVar 7)) dNext)
  (dSeq (dAsg (dCall (S_tried n) (dCons (dCall S_with_pair (dCons (dVar 0) (dCons (dVar 3) (dCons (dTup (dCons (dOp addD (dVar 6) (dC (.int 1))) (dCons (dOp ixD (dVar 4) (dC (.int 1))) dNil))) dNil)))) (dCons (dVar 1) dNil))) (dgName 8))
  (dSeq (dIfS (dTest (dOp isD (dOp ixD (dVar 8) (dC (.int 0))) (dC .non))) (dRet (dVar 8)) dNext)
  (dRet (dTup (dCons (dTup (dCons (dC (.str "cut")) (dCons (dVar 3) (dCons (dVar 6) (dCons (dOp ixD (dVar 7) (dC (.int 0))) (dCons (dOp ixD (dVar 8) (dC (.int 0))) dNil)))))) (dCons (dC .non) dNil))))))))))))))
theorem len_tried (n : Nat) (ds : List D) (O : Own) (R : D → Own → Prop) (h : S_tried (n + 1) ds O R) : ds.length = 2 := by obtain ⟨_, _, _, _, rfl, _⟩ := h; rfl
theorem sem_tried (n : Nat) (ds : List D) (O : Own) (R : D → Own → Prop) (h : S_tried (n + 1) ds O R) : R_tried n { nx := fun _ O' => Pure O R .non O', rt := Pure O R } (startD N_tried ds) O := by
  obtain ⟨st, ss, d1, d2, rfl, h1, h2, ok, hw, ht, hf⟩ := h
  rcases asL_cases h1 with rfl | ⟨k1, rfl, -⟩ <;> rcases asL_cases h2 with rfl | ⟨k2, rfl, -⟩
  all_goals
    refine ⟨st, ss, _, _, rfl, h1, h2, ok.ssf, ok.ok, ?_⟩
    walk_at "w"
    try (rw [h2]; walk_at "w")
    rw [encSs_length]
    refine ifD (fun e => ?_) (fun e => ?_)
    · have e' : overS st ss < ss.length := by omega
      have g := List.findIdx_getElem (xs := ss) (p := fun s => decide (0 < leastS s st)) (w := e')
      refine Pure.same (.tup (.cons (.tup (.cons (.str _) (.cons (.int _) .nil))) (.cons .non .nil))) (ht (.sum (overS st ss : Nat)) ?_ (by show 1 ≤ n + 1; omega))
      unfold isT
      rw [if_pos ⟨by omega, by omega⟩, Int.toNat_natCast, List.getD_eq_getElem?_getD, List.getElem?_eq_getElem e']
      exact g
    have hno : ∀ s ∈ ss, leastS s st ≤ 0 := fun s hs => by
      have g : overS st ss = ss.length := by
        have := List.findIdx_le_length (xs := ss) (p := fun s => decide (0 < leastS s st))
        unfold overS at e ⊢
        omega
      have := List.findIdx_eq_length.mp g s hs
      have := of_decide_eq_false this
      omega
    refine ⟨st, _, rfl, h1, ok.pos, by have := ok.few; omega, fun b p hp hm => ?_⟩
    have hb : b < st.length := (List.getElem?_eq_some_iff.mp hp).1
    have hpm : p ∈ st := List.mem_of_getElem? hp
    have ple := ok.le p hpm
    walk_at "w"
    try (rw [h1]; walk_at "w")
    rw [atD_nat (encSt_get hp)]
    walk_at "w"
    refine ifD (fun e1 => ?_) (fun e1 => ?_)
    · walk_at "w"
      try rw [h1]
      refine lc_list encP (fun p => .int p.1) h1 st [] (fun p _ Q q => q) (by have := ok.few; simp; omega) ?_
      have e2 : ([] : List D) ++ st.map (fun p => D.int p.1) = encI (st.map (·.1)) := by rw [encI, List.map_map]; rfl
      rw [e2]
      have hpt : ∀ q ∈ st, q.1 = q.2 := fun q hq => by have := hm q hq; have := ok.le q hq; omega
      refine Pure.same (.tup (.cons .non (.cons (.lst (encI_hd _)) .nil))) (hf (st.map (·.1)) (inSt_point hpt) fun s hs => ?_)
      have := hno s hs
      unfold leastS at this
      rw [least_point _ _ hpt] at this
      exact this
    walk_at "w"
    refine ⟨(by decide : (0 : Int) < 2 ∧ (2 : Int) < _), ?_⟩
    let m : Int := (p.1 + p.2) / 2
    have em : (p.1 + p.2) / 2 = m := rfl
    have m1 : p.1 ≤ m := by omega
    have m2 : m < p.2 := by omega
    cases n with
    | zero =>
      have w0 : (p.2 - p.1).toNat ≤ wid st := by
        have : ∀ (l : List Pr), p ∈ l → (p.2 - p.1).toNat ≤ wid l := by
          intro l
          induction l with
          | nil => intro z; cases z
          | cons r l ih =>
            intro z
            show _ ≤ (r.2 - r.1).toNat + wid l
            rcases List.mem_cons.mp z with z | z
            · rw [z]; omega
            · have := ih z; omega
        exact this st hpm
      omega
    | succ n =>
      refine ⟨st, b, (p.1, m), _, rfl, h1, hb, by have := ok.few; omega, ?_⟩
      have sl : asL O (.lst (encSt (st.set b (p.1, m)))) = some (encSt (st.set b (p.1, m))) := rfl
      have su : asL O (.lst (encSt (st.set b (m + 1, p.2)))) = some (encSt (st.set b (m + 1, p.2))) := rfl
      have wl : wid (st.set b (p.1, m)) < wid st := wid_set hp (by show (m - p.1).toNat < _; omega)
      have wu : wid (st.set b (m + 1, p.2)) < wid st := wid_set hp (by show (p.2 - (m + 1)).toNat < _; omega)
      have gb : st.getD b (0, 0) = p := by rw [List.getD_eq_getElem?_getD, hp]; rfl
      refine ⟨st.set b (p.1, m), ss, _, _, rfl, sl, h2, ok.set b m1, by omega, fun tl il dl => ?_, fun f hif hall => ?_⟩
      · walk_at "w"
        refine ifF (encT_non tl) ?_
        refine ⟨st, b, (m + 1, p.2), _, rfl, h1, hb, by have := ok.few; omega, ?_⟩
        refine ⟨st.set b (m + 1, p.2), ss, _, _, rfl, su, h2, ok.set b (by show m + 1 ≤ p.2; omega), by omega, fun tr ir dr => ?_, fun f hif hall => ?_⟩
        · walk_at "w"
          refine ifF (encT_non tr) ?_
          refine Pure.same (encT_hd (.cut b m tl tr) |> fun q => .tup (.cons q (.cons .non .nil))) (ht (.cut b m tl tr) ?_ (by show 1 + max tl.dep tr.dep ≤ n + 1 + 1; omega))
          unfold isT
          rw [if_pos ⟨by omega, by omega⟩, Int.toNat_natCast, gb, if_pos ⟨m1, m2⟩, il, ir]
          rfl
        · walk_at "w"
          exact Pure.same (.tup (.cons .non (.cons (.lst (encI_hd _)) .nil))) (hf f (inSt_set (q := (m + 1, p.2)) hp (by show p.1 ≤ m + 1; omega) (Int.le_refl _) hif) hall)
      · walk_at "w"
        exact Pure.same (.tup (.cons .non (.cons (.lst (encI_hd _)) .nil))) (hf f (inSt_set (q := (p.1, m)) hp (Int.le_refl _) (by show m ≤ p.2; omega) hif) hall)
theorem ifNB {b : Bool} {A B : Prop} (h : (b = true → B) ∧ (b = false → A)) : if (!b) = true then A else B := by
  cases b with
  | true => exact h.1 rfl
  | false => exact h.2 rfl
theorem decide_cases {p A B : Prop} [Decidable p] (_ : Unit) (h1 : p → B) (h2 : ¬ p → A) : (decide p = true → B) ∧ (decide p = false → A) := ⟨fun e => h1 (of_decide_eq_true e), fun e => h2 (of_decide_eq_false e)⟩
/-! ### is_tree -/
def S_is_tree : Nat → DSp
  | 0 => fun _ _ _ => False
  | n + 1 => fun ds O R => ∃ (st : List Pr) (ss : List Sm) (t : Tr) (d1 d2 : D), ds = [d1, d2, encT t] ∧ asL O d1 = some (encSt st) ∧ asL O d2 = some (encSs ss) ∧ st.length ≤ 100 ∧ ss.length ≤ 1000 ∧ (∀ s ∈ ss, SmOk st.length s) ∧ t.dep ≤ n + 1 ∧ R (.bl (isT ss st t)) O
def N_is_tree : List Str := ["stretch", "some", "tree", "pair"]
def R_is_tree (n : Nat) : DS :=
  (dSeq (dIfS (dTest (dOp eqD (dOp ixD (dVar 2) (dC (.int 0))) (dC (.str "sum")))) (dRet (dAndV (dChain leD ltD (dC (.int 0)) (dOp ixD (dVar 2) (dC (.int 1))) (dCall1 lenD (dCons (dVar 1) dNil))) (dOp gtD (dCall S_least (dCons (dOp ixD (dVar 1) (dOp ixD (dVar 2) (dC (.int 1)))) (dCons (dVar 0) dNil))) (dC (.int 0))))) dNext)
  (dSeq (dIfS (dNot (dTest (dChain leD ltD (dC (.int 0)) (dOp ixD (dVar 2) (dC (.int 1))) (dCall1 lenD (dCons (dVar 0) dNil))))) (dRet (dC (.bl false))) dNext)
  (dSeq (dAsg (dOp ixD (dVar 0) (dOp ixD (dVar 2) (dC (.int 1)))) (dgName 3))
  (dSeq (dIfS (dNot (dTest (dChain leD ltD (dOp ixD (dVar 3) (dC (.int 0))) (dOp ixD (dVar 2) (dC (.int 2))) (dOp ixD (dVar 3) (dC (.int 1)))))) (dRet (dC (.bl false))) dNext)
  (dSeq (dIfS (dNot (dTest (dCall (S_is_tree n) (dCons (dCall S_with_pair (dCons (dVar 0) (dCons (dOp ixD (dVar 2) (dC (.int 1))) (dCons (dTup (dCons (dOp ixD (dVar 3) (dC (.int 0))) (dCons (dOp ixD (dVar 2) (dC (.int 2))) dNil))) dNil)))) (dCons (dVar 1) (dCons (dOp ixD (dVar 2) (dC (.int 3))) dNil)))))) (dRet (dC (.bl false))) dNext)
  (dRet (dCall (S_is_tree n) (dCons (dCall S_with_pair (dCons (dVar 0) (dCons (dOp ixD (dVar 2) (dC (.int 1))) (dCons (dTup (dCons (dOp addD (dOp ixD (dVar 2) (dC (.int 2))) (dC (.int 1))) (dCons (dOp ixD (dVar 3) (dC (.int 1))) dNil))) dNil)))) (dCons (dVar 1) (dCons (dOp ixD (dVar 2) (dC (.int 4))) dNil))))))))))
theorem ok_sum : PyData.strOk "sum" = true := by decide +kernel
theorem ok_cut : PyData.strOk "cut" = true := by decide +kernel
theorem cut_ne : ¬ ("cut" : Str) = "sum" := by decide +kernel
theorem py_sum {O : Own} : pyD O 40 (.str "sum") = some (.str "sum") := Py.str (by decide +kernel) O 40 (by decide)
theorem py_cut {O : Own} : pyD O 40 (.str "cut") = some (.str "cut") := Py.str (by decide +kernel) O 40 (by decide)
theorem ss_eq : PyData.eqv (.str "sum") (.str "sum") = true := by rw [eqv_str]; exact decide_eq_true rfl
theorem cs_eq : PyData.eqv (.str "cut") (.str "sum") = false := by rw [eqv_str]; exact decide_eq_false (by decide +kernel)
theorem cc_eq : PyData.eqv (.str "cut") (.str "cut") = true := by rw [eqv_str]; exact decide_eq_true rfl
theorem isT_sum_no {ss : List Sm} {st : List Pr} {i : Int} (h : ¬ (0 ≤ i ∧ i < ss.length)) : isT ss st (.sum i) = false := by unfold isT; rw [if_neg h]
theorem isT_sum {ss : List Sm} {st : List Pr} {j : Nat} {s : Sm} (h : ss[j]? = some s) : isT ss st (.sum (j : Nat)) = decide (0 < leastS s st) := by
  have := (List.getElem?_eq_some_iff.mp h).1
  unfold isT
  rw [if_pos ⟨by omega, by omega⟩, Int.toNat_natCast, List.getD_eq_getElem?_getD, h]
  rfl
theorem isT_cut_no {ss : List Sm} {st : List Pr} {b m : Int} {l r : Tr} (h : ¬ (0 ≤ b ∧ b < st.length)) : isT ss st (.cut b m l r) = false := by unfold isT; rw [if_neg h]
theorem isT_cut_no2 {ss : List Sm} {st : List Pr} {j : Nat} {m : Int} {l r : Tr} {p : Pr} (h : st[j]? = some p) (g : ¬ (p.1 ≤ m ∧ m < p.2)) : isT ss st (.cut (j : Nat) m l r) = false := by
  have := (List.getElem?_eq_some_iff.mp h).1
  unfold isT
  rw [if_pos ⟨by omega, by omega⟩, Int.toNat_natCast, List.getD_eq_getElem?_getD, h]
  exact if_neg g
theorem isT_cut {ss : List Sm} {st : List Pr} {j : Nat} {m : Int} {l r : Tr} {p : Pr} (h : st[j]? = some p) (g : p.1 ≤ m ∧ m < p.2) : isT ss st (.cut (j : Nat) m l r) = (isT ss (st.set j (p.1, m)) l && isT ss (st.set j (m + 1, p.2)) r) := by
  have := (List.getElem?_eq_some_iff.mp h).1
  conv => lhs; unfold isT
  rw [if_pos ⟨by omega, by omega⟩, Int.toNat_natCast, List.getD_eq_getElem?_getD, h]
  exact if_pos g
theorem len_is_tree (n : Nat) (ds : List D) (O : Own) (R : D → Own → Prop) (h : S_is_tree (n + 1) ds O R) : ds.length = 3 := by obtain ⟨_, _, _, _, _, rfl, _⟩ := h; rfl
theorem sem_is_tree (n : Nat) (ds : List D) (O : Own) (R : D → Own → Prop) (h : S_is_tree (n + 1) ds O R) : R_is_tree n { nx := fun _ O' => Pure O R .non O', rt := Pure O R } (startD N_is_tree ds) O := by
  obtain ⟨st, ss, t, d1, d2, rfl, h1, h2, hn, hm, hs, hd, h⟩ := h
  rcases asL_cases h1 with rfl | ⟨k1, rfl, -⟩ <;> rcases asL_cases h2 with rfl | ⟨k2, rfl, -⟩
  all_goals
    cases t with
    | sum i =>
      walk_at "w"
      refine strT ok_sum ?_
      walk_at "w"
      refine ifD (fun e1 => ?_) (fun e1 => ?_)
      · walk_at "w"
        try (rw [h2]; walk_at "w")
        rw [encSs_length]
        refine ifD (fun e2 => ?_) (fun e2 => ?_)
        · obtain ⟨j, rfl⟩ : ∃ j : Nat, i = (j : Int) := ⟨i.toNat, by omega⟩
          have gj : ss[j]? = some ss[j] := List.getElem?_eq_getElem (by omega)
          walk_at "w"
          try (rw [h2]; walk_at "w")
          rw [atD_nat (encSs_get gj)]
          obtain ⟨l1, l2, _⟩ := hs _ (List.getElem_mem (by omega : j < ss.length))
          refine ⟨ss[j], st, _, rfl, h1, l1, l2, ?_⟩
          rw [isT_sum gj] at h
          exact Pure.same (.bl _) h
        · walk_at "w"
          rw [isT_sum_no (by omega)] at h
          exact Pure.same (.bl _) h
      · walk_at "w"
        rw [isT_sum_no (by omega)] at h
        exact Pure.same (.bl _) h
    | cut b m l r =>
      walk_at "w"
      refine strF ok_cut ok_sum cut_ne ?_
      walk_at "w"
      refine ifD (fun e1 => ?_) (fun e1 => ?_)
      · walk_at "w"
        try (rw [h1]; walk_at "w")
        rw [encSt_length]
        refine ifNB (decide_cases () (fun e2 => ?_) (fun e2 => ?_))
        · obtain ⟨j, rfl⟩ : ∃ j : Nat, b = (j : Int) := ⟨b.toNat, by omega⟩
          have gj : st[j]? = some st[j] := List.getElem?_eq_getElem (by omega)
          generalize ep : st[j]'(by omega) = p at gj
          walk_at "w"
          try (rw [h1]; walk_at "w")
          rw [atD_nat (encSt_get gj)]
          walk_at "w"
          refine ifD (fun e3 => ?_) (fun e3 => ?_)
          · walk_at "w"
            refine ifNB (decide_cases () (fun e4 => ?_) (fun e4 => ?_))
            · cases n with
              | zero => have : (1 : Nat) ≤ l.dep := by cases l <;> simp [Tr.dep] <;> omega
                        have : 1 + max l.dep r.dep ≤ 0 + 1 := hd
                        omega
              | succ n =>
                have hd' : 1 + max l.dep r.dep ≤ n + 1 + 1 := hd
                rw [isT_cut gj ⟨e3, e4⟩] at h
                refine ⟨st, j, (p.1, m), _, rfl, h1, by omega, by omega, ?_⟩
                refine ⟨st.set j (p.1, m), ss, l, _, _, rfl, rfl, h2, by rw [List.length_set]; exact hn, hm, by rw [List.length_set]; exact hs, by omega, ?_⟩
                refine ifNB ⟨fun e5 => ?_, fun e5 => ?_⟩
                · refine ⟨st, j, (m + 1, p.2), _, rfl, h1, by omega, by omega, ?_⟩
                  refine ⟨st.set j (m + 1, p.2), ss, r, _, _, rfl, rfl, h2, by rw [List.length_set]; exact hn, hm, by rw [List.length_set]; exact hs, by omega, ?_⟩
                  rw [e5] at h
                  exact Pure.same (.bl _) h
                · rw [e5] at h
                  exact Pure.same (.bl _) h
            · walk_at "w"
              rw [isT_cut_no2 gj (by omega)] at h
              exact Pure.same (.bl _) h
          · walk_at "w"
            rw [isT_cut_no2 gj (by omega)] at h
            exact Pure.same (.bl _) h
        · walk_at "w"
          rw [isT_cut_no (by omega)] at h
          exact Pure.same (.bl _) h
      · walk_at "w"
        rw [isT_cut_no (by omega)] at h
        exact Pure.same (.bl _) h
end DL

/-! What the law's own look at a tree computes. -/
namespace DL
open PySem L2
local macro_rules | `(tactic| walk_at "w") => `(tactic| conv => whnf)
def N_l_least : List Str := ["_law_one", "_law_stretch_here", "_law_found", "_law_k", "_law_held"]
def R_l_least : DS :=
  (dSeq (dAsg (dOp ixD (dVar 0) (dC (.int 1))) (dgName 2))
  (dSeq (dFor (diR1 (dCall1 lenD (dCons (dVar 1) dNil))) (dgName 3) (dAsg (dOp addD (dVar 2) (dCall1 minD (dCons (dFrz (dLc (diT (dOp ixD (dVar 1) (dVar 3))) (dgName 4) dYes (dOp mulD (dOp ixD (dOp ixD (dVar 0) (dC (.int 0))) (dVar 3)) (dVar 4)) [4])) dNil))) (dgName 2)))
  (dRet (dVar 2))))
def S_l_least : DSp := fun ds O R => ∃ (s : Sm) (st : List Pr), ds = [encS s, .lst (encSt st)] ∧ s.1.length = st.length ∧ st.length ≤ 1000 ∧ BdL 60 s.1 ∧ R (.int (leastS s st)) O
theorem len_l_least (ds : List D) (O : Own) (R : D → Own → Prop) (h : S_l_least ds O R) : ds.length = 2 := by obtain ⟨_, _, rfl, _⟩ := h; rfl
theorem mn_of {a b k : Int} (h : k ∈ [a, b]) (m : ∀ y ∈ [a, b], k ≤ y) : k = mn a b := by
  have h1 := m a List.mem_cons_self
  have h2 := m b (List.mem_cons_of_mem _ List.mem_cons_self)
  unfold mn
  simp at h
  split <;> omega
theorem sem_l_least (ds : List D) (O : Own) (R : D → Own → Prop) (h : S_l_least ds O R) : R_l_least { nx := fun _ O' => Pure O R .non O', rt := Pure O R } (startD N_l_least ds) O := by
  obtain ⟨s, st, rfl, hl, hn, b1, h⟩ := h
  walk_at "w"
  rw [encSt_length]
  refine ⟨by omega, ?_⟩
  rw [Int.toNat_natCast]
  refine forL_rng st.length (fun j δ O' => O' = O ∧ ∃ m c, δ = [some (encS s), some (.lst (encSt st)), some (.int m), c, none] ∧ m + ldot (s.1.drop j) (st.drop j) = leastS s st) ⟨rfl, _, _, rfl, rfl⟩ (fun _ _ _ _ => trivial) ?_ ?_
  · rintro j δ O' nx hj ⟨rfl, m, c, rfl, hm⟩ hx
    have j1 : j < s.1.length := by omega
    walk_at "w"
    rw [atD_nat (encSt_get (List.getElem?_eq_getElem hj))]
    have st1 : ∀ x : Int, (∀ Q : D → Own → Prop, Q (.int (s.1[j] * x)) O' → (dOp mulD (dOp ixD (dOp ixD (dVar 0) (dC (.int 0))) (dVar 3)) (dVar 4)) [some (encS s), some (.lst (encSt st)), some (.int m), some (.int ((j : Nat) : Int)), some (.int x)] O' Q) := fun x Q q => by
      walk_at "w"
      rw [atD_nat (encI_get (List.getElem?_eq_getElem j1))]
      exact ⟨.inr (.inl ((b1 _ (List.getElem_mem j1)).mono (by decide))), q⟩
    refine ⟨trivial, st1 _ _ ⟨(by decide : 0 < 100000), ⟨trivial, st1 _ _ ⟨(by show 1 < 100000; decide), ⟨trivial, ?_⟩⟩⟩⟩⟩
    refine ⟨(by show 0 < 2; decide), fun k hk hm' => ?_⟩
    refine hx _ _ ⟨rfl, m + k, _, rfl, ?_⟩
    rw [mn_of hk hm', ← hm, List.drop_eq_getElem_cons j1, List.drop_eq_getElem_cons hj, Int.add_assoc]
    rfl
  · rintro δ O' ⟨rfl, m, c, rfl, hm⟩
    rw [List.drop_eq_nil_of_le (by omega)] at hm
    rw [← hm] at h
    have : m + ldot [] (st.drop st.length) = m := by show m + 0 = m; omega
    rw [this] at h
    exact Pure.same (.int _) h
def S_l_is_tree : Nat → DSp
  | 0 => fun _ _ _ => False
  | n + 1 => fun ds O R => ∃ (st : List Pr) (ss : List Sm) (t : Tr), ds = [.lst (encSt st), .lst (encSs ss), encT t] ∧ st.length ≤ 100 ∧ ss.length ≤ 1000 ∧ (∀ s ∈ ss, SmOk st.length s) ∧ t.dep ≤ n + 1 ∧ R (.bl (isT ss st t)) O
def N_l_is_tree : List Str := ["_law_stretch_here", "_law_some", "_law_tree", "_law_pair", "_law_below", "_law_above"]
def R_l_is_tree (n : Nat) : DS :=
  (dSeq (dIfS (dOr (dNot (dTest (dIsi .tup (dVar 2)))) (dOr (dTest (dOp ltD (dCall1 lenD (dCons (dVar 2) dNil)) (dC (.int 2)))) (dOr (dNot (dTest (dCall S_l_whole (dCons (dOp ixD (dVar 2) (dC (.int 1))) dNil)))) (dTest (dOp ltD (dOp ixD (dVar 2) (dC (.int 1))) (dC (.int 0))))))) (dRet (dC (.bl false))) dNext)
  (dSeq (dIfS (dTest (dOp eqD (dOp ixD (dVar 2) (dC (.int 0))) (dC (.str "sum")))) (dRet (dAndV (dOp eqD (dCall1 lenD (dCons (dVar 2) dNil)) (dC (.int 2))) (dAndV (dOp ltD (dOp ixD (dVar 2) (dC (.int 1))) (dCall1 lenD (dCons (dVar 1) dNil))) (dOp gtD (dCall S_l_least (dCons (dOp ixD (dVar 1) (dOp ixD (dVar 2) (dC (.int 1)))) (dCons (dVar 0) dNil))) (dC (.int 0)))))) dNext)
  (dSeq (dIfS (dOr (dTest (dOp neD (dOp ixD (dVar 2) (dC (.int 0))) (dC (.str "cut")))) (dOr (dTest (dOp neD (dCall1 lenD (dCons (dVar 2) dNil)) (dC (.int 5)))) (dOr (dTest (dOp geD (dOp ixD (dVar 2) (dC (.int 1))) (dCall1 lenD (dCons (dVar 0) dNil)))) (dNot (dTest (dCall S_l_whole (dCons (dOp ixD (dVar 2) (dC (.int 2))) dNil))))))) (dRet (dC (.bl false))) dNext)
  (dSeq (dAsg (dOp ixD (dVar 0) (dOp ixD (dVar 2) (dC (.int 1)))) (dgName 3))
  (dSeq (dIfS (dNot (dTest (dChain leD ltD (dOp ixD (dVar 3) (dC (.int 0))) (dOp ixD (dVar 2) (dC (.int 2))) (dOp ixD (dVar 3) (dC (.int 1)))))) (dRet (dC (.bl false))) dNext)
  (dSeq (dAsg (dOp addD (dOp addD (dSl (dVar 0) dNoPart (dPart (dOp ixD (dVar 2) (dC (.int 1))))) (dFrz (dLst (dCons (dTup (dCons (dOp ixD (dVar 3) (dC (.int 0))) (dCons (dOp ixD (dVar 2) (dC (.int 2))) dNil))) dNil)))) (dSl (dVar 0) (dPart (dOp addD (dOp ixD (dVar 2) (dC (.int 1))) (dC (.int 1)))) dNoPart)) (dgName 4))
  (dSeq (dAsg (dOp addD (dOp addD (dSl (dVar 0) dNoPart (dPart (dOp ixD (dVar 2) (dC (.int 1))))) (dFrz (dLst (dCons (dTup (dCons (dOp addD (dOp ixD (dVar 2) (dC (.int 2))) (dC (.int 1))) (dCons (dOp ixD (dVar 3) (dC (.int 1))) dNil))) dNil)))) (dSl (dVar 0) (dPart (dOp addD (dOp ixD (dVar 2) (dC (.int 1))) (dC (.int 1)))) dNoPart)) (dgName 5))
  (dRet (dAndV (dCall (S_l_is_tree n) (dCons (dVar 4) (dCons (dVar 1) (dCons (dOp ixD (dVar 2) (dC (.int 3))) dNil)))) (dCall (S_l_is_tree n) (dCons (dVar 5) (dCons (dVar 1) (dCons (dOp ixD (dVar 2) (dC (.int 4))) dNil)))))))))))))
theorem len_l_is_tree (n : Nat) (ds : List D) (O : Own) (R : D → Own → Prop) (h : S_l_is_tree (n + 1) ds O R) : ds.length = 3 := by obtain ⟨_, _, _, rfl, _⟩ := h; rfl
theorem sem_l_is_tree (n : Nat) (ds : List D) (O : Own) (R : D → Own → Prop) (h : S_l_is_tree (n + 1) ds O R) : R_l_is_tree n { nx := fun _ O' => Pure O R .non O', rt := Pure O R } (startD N_l_is_tree ds) O := by
  obtain ⟨st, ss, t, rfl, hn, hm, hs, hd, h⟩ := h
  cases t with
  | sum i =>
    walk_at "w"
    refine ⟨.int i, .int, rfl, rfl, ?_⟩
    walk_at "w"
    refine ifD (fun e1 => ?_) (fun e1 => ?_)
    · walk_at "w"
      rw [isT_sum_no (by omega)] at h
      exact Pure.same (.bl _) h
    · walk_at "w"
      refine strT ok_sum ?_
      walk_at "w"
      rw [encSs_length]
      refine ifD (fun e2 => ?_) (fun e2 => ?_)
      · obtain ⟨j, rfl⟩ : ∃ j : Nat, i = (j : Int) := ⟨i.toNat, by omega⟩
        have gj : ss[j]? = some ss[j] := List.getElem?_eq_getElem (by omega)
        walk_at "w"
        rw [atD_nat (encSs_get gj)]
        obtain ⟨l1, l2, _⟩ := hs _ (List.getElem_mem (by omega : j < ss.length))
        refine ⟨ss[j], st, rfl, l1, by omega, l2, ?_⟩
        rw [isT_sum gj] at h
        exact Pure.same (.bl _) h
      · walk_at "w"
        rw [isT_sum_no (by omega)] at h
        exact Pure.same (.bl _) h
  | cut b m l r =>
    walk_at "w"
    refine ⟨.int b, .int, rfl, rfl, ?_⟩
    walk_at "w"
    refine ifD (fun e1 => ?_) (fun e1 => ?_)
    · walk_at "w"
      rw [isT_cut_no (by omega)] at h
      exact Pure.same (.bl _) h
    · walk_at "w"
      refine strF ok_cut ok_sum cut_ne ?_
      walk_at "w"
      refine strT ok_cut ?_
      walk_at "w"
      rw [encSt_length]
      refine ifD (fun e2 => ?_) (fun e2 => ?_)
      · walk_at "w"
        rw [isT_cut_no (by omega)] at h
        exact Pure.same (.bl _) h
      · obtain ⟨j, rfl⟩ : ∃ j : Nat, b = (j : Int) := ⟨b.toNat, by omega⟩
        have gj : st[j]? = some st[j] := List.getElem?_eq_getElem (by omega)
        generalize ep : st[j]'(by omega) = p at gj
        refine ⟨.int m, .int, rfl, rfl, ?_⟩
        walk_at "w"
        rw [atD_nat (encSt_get gj)]
        walk_at "w"
        refine ifD (fun e3 => ?_) (fun e3 => ?_)
        · walk_at "w"
          refine ifNB (decide_cases () (fun e4 => ?_) (fun e4 => ?_))
          · have l1 : (cutD (encSt st) none (some ((j : Nat) : Int))).length = j := by rw [cut_lo (by rw [encSt_length]; omega), List.length_take, encSt_length]; omega
            have l2 : (cutD (encSt st) (some (((j : Nat) : Int) + 1)) none).length ≤ 1000 := by
              have e : ((j : Nat) : Int) + 1 = ((j + 1 : Nat) : Int) := rfl
              rw [e, cut_hi (by rw [encSt_length]; omega), List.length_drop, encSt_length]
              omega
            walk_at "w"
            refine ⟨by rw [l1]; simp; omega, ?_⟩
            walk_at "w"
            refine ⟨by rw [List.length_append, l1]; simp; omega, ?_⟩
            walk_at "w"
            refine ⟨by rw [l1]; simp; omega, ?_⟩
            walk_at "w"
            refine ⟨by rw [List.length_append, l1]; simp; omega, ?_⟩
            have c1 : cutD (encSt st) none (some ((j : Nat) : Int)) ++ [.tup [.int p.1, .int m]] ++ cutD (encSt st) (some (((j : Nat) : Int) + 1)) none = encSt (st.set j (p.1, m)) := cut_set (p := (p.1, m)) (by omega)
            have c2 : cutD (encSt st) none (some ((j : Nat) : Int)) ++ [.tup [.int (m + 1), .int p.2]] ++ cutD (encSt st) (some (((j : Nat) : Int) + 1)) none = encSt (st.set j (m + 1, p.2)) := cut_set (p := (m + 1, p.2)) (by omega)
            rw [c1, c2]
            cases n with
            | zero => have : (1 : Nat) ≤ l.dep := by cases l <;> simp [Tr.dep] <;> omega
                      have : 1 + max l.dep r.dep ≤ 0 + 1 := hd
                      omega
            | succ n =>
              have hd' : 1 + max l.dep r.dep ≤ n + 1 + 1 := hd
              rw [isT_cut gj ⟨e3, e4⟩] at h
              refine ⟨st.set j (p.1, m), ss, l, rfl, by rw [List.length_set]; exact hn, hm, by rw [List.length_set]; exact hs, by omega, ?_⟩
              refine ifB (fun e5 => ?_) (fun e5 => ?_)
              · refine ⟨st.set j (m + 1, p.2), ss, r, rfl, by rw [List.length_set]; exact hn, hm, by rw [List.length_set]; exact hs, by omega, ?_⟩
                rw [e5] at h
                exact Pure.same (.bl _) h
              · rw [e5] at h
                exact Pure.same (.bl _) h
          · walk_at "w"
            rw [isT_cut_no2 gj (by omega)] at h
            exact Pure.same (.bl _) h
        · walk_at "w"
          rw [isT_cut_no2 gj (by omega)] at h
          exact Pure.same (.bl _) h
end DL

/-! The law's stretch, its fillings, and the change of a tree. -/
namespace DL
open PySem L2
local macro_rules | `(tactic| walk_at "w") => `(tactic| conv => whnf)
/-- every item kept, of each element only this is told -/
theorem lc_all {i : Nat} {te : DE} {chk : Own → Prop} {δ : DSt} {R : List D → Own → Prop} {O : Own} (P : D → Prop) (hc : chk O) : ∀ (ds acc : List D), (∀ d ∈ ds, ∀ Q : D → Own → Prop, (∀ y, P y → Q y O) → te (δ.set i (some d)) O Q) → acc.length + ds.length ≤ 100000 →
    (∀ l : List D, l.length = ds.length → (∀ y ∈ l, P y) → R (acc ++ l) O) → lcL (dgName i) dYes te chk δ R ds acc O
  | [], acc, _, _, h => ⟨hc, by simpa using h [] rfl fun _ z => by cases z⟩
  | d :: ds, acc, he, hl, h => by
    refine ⟨hc, ?_⟩
    show te (δ.set i (some d)) O _
    rw [List.length_cons] at hl
    refine he d List.mem_cons_self _ fun y hy => ⟨by omega, lc_all P hc ds (acc ++ [y]) (fun x hx => he x (List.mem_cons_of_mem _ hx)) (by rw [List.length_append, List.length_singleton]; omega) fun l hl' hP => ?_⟩
    rw [List.append_assoc]
    exact h (y :: l) (by simp [hl']) fun z hz => (List.mem_cons.mp hz).elim (fun e => e ▸ hy) (hP z)
/-- some items kept -/
theorem lc_flist {α : Type} {i : Nat} {tt : DT} {te : DE} {chk : Own → Prop} {δ : DSt} {R : List D → Own → Prop} {O : Own} (g : α → D) (b : α → Bool) (f : α → D) (hc : chk O) : ∀ (l : List α) (acc : List D), (∀ d ∈ l, ∀ Q : Bool → Own → Prop, Q (b d) O → tt (δ.set i (some (g d))) O Q) →
    (∀ d ∈ l, b d = true → ∀ Q : D → Own → Prop, Q (f d) O → te (δ.set i (some (g d))) O Q) → acc.length + l.length ≤ 100000 → R (acc ++ (l.filter b).map f) O → lcL (dgName i) tt te chk δ R (l.map g) acc O
  | [], acc, _, _, _, h => ⟨hc, by simpa using h⟩
  | d :: ds, acc, hb, he, hl, h => by
    rw [List.length_cons] at hl
    refine ⟨hc, ?_⟩
    show tt (δ.set i (some (g d))) O _
    refine hb d List.mem_cons_self _ ?_
    cases q : b d with
    | true =>
      rw [if_pos rfl]
      refine he d List.mem_cons_self q _ ⟨by omega, lc_flist g b f hc ds (acc ++ [f d]) (fun x hx => hb x (List.mem_cons_of_mem _ hx)) (fun x hx => he x (List.mem_cons_of_mem _ hx)) (by rw [List.length_append, List.length_singleton]; omega) ?_⟩
      rw [List.filter_cons_of_pos q, List.map_cons] at h
      rw [List.append_assoc]
      exact h
    | false =>
      rw [if_neg Bool.false_ne_true]
      rw [List.filter_cons_of_neg (by rw [q]; exact Bool.false_ne_true)] at h
      exact lc_flist g b f hc ds acc (fun x hx => hb x (List.mem_cons_of_mem _ hx)) (fun x hx => he x (List.mem_cons_of_mem _ hx)) (by omega) h
/-- a for over told items by their places -/
theorem forL_rngI {α : Type} (f : α → D) (l : List α) {g : DTg} {b : DS} {chk : Own → Prop} {E : DEnds} (I : Nat → DSt → Own → Prop) {δ : DSt} {O : Own} (h : I 0 δ O) (hc : ∀ j δ O, I j δ O → chk O)
    (step : ∀ j a δ O nx, j < l.length → l[j]? = some a → I j δ O → (∀ δ' O', I (j + 1) δ' O' → nx δ' O') → g (f a) δ O fun δ1 O1 => b { E with nx := nx, ct := nx, bk := E.nx } δ1 O1)
    (done : ∀ δ O, I l.length δ O → E.nx δ O) : forL g b chk E (l.map f) δ O := by
  have go : ∀ (k j : Nat) (m : List α) (δ : DSt) (O : Own), j + k = l.length → m = l.drop j → I j δ O → forL g b chk E (m.map f) δ O := by
    intro k
    induction k with
    | zero =>
      intro j m δ O e em h
      have : j = l.length := by omega
      subst this
      rw [em, List.drop_eq_nil_of_le (Nat.le_refl _)]
      exact ⟨hc _ _ _ h, done _ _ h⟩
    | succ k ih =>
      intro j m δ O e em h
      have hj : j < l.length := by omega
      rw [em, List.drop_eq_getElem_cons hj]
      exact ⟨hc _ _ _ h, step j l[j] δ O _ hj (List.getElem?_eq_getElem hj) h fun δ' O' h' => ih (j + 1) _ δ' O' (by omega) rfl h'⟩
  exact go l.length 0 l δ O (by omega) rfl h
/-! ### _law_stretch -/
structure StLaw (st : List Pr) : Prop where
  pos : 1 ≤ st.length
  few : st.length ≤ 3
  le : ∀ p ∈ st, p.1 ≤ p.2 ∧ p.2 - p.1 ≤ 9
  lo : ∀ p ∈ st, -3 ≤ p.1 ∧ p.1 ≤ 2
  wid : wid st ≤ 10
def N_l_stretch : List Str := ["_law_script", "_law_many", "_law_found", "_law_k", "_law_cell", "_law_low"]
def R_l_stretch : DS :=
  (dSeq (dAsg (dOp addD (dC (.int 1)) (dOp modD (dCall S_l_at (dCons (dVar 0) (dCons (dC (.int 0)) dNil))) (dC (.int 3)))) (dgName 1))
  (dSeq (dAsg (dNew (dLst dNil)) (dgName 2))
  (dSeq (dFor (diR1 (dVar 1)) (dgName 3) (dSeq (dAsg (dCall S_l_at (dCons (dVar 0) (dCons (dOp addD (dC (.int 1)) (dVar 3)) dNil))) (dgName 4))
  (dSeq (dAsg (dOp subD (dOp modD (dVar 4) (dC (.int 6))) (dC (.int 3))) (dgName 5))
  (dDrop (dApp (dVar 2) (dTup (dCons (dVar 5) (dCons (dOp addD (dVar 5) (dOp modD (dOp divD (dVar 4) (dC (.int 6))) (dOp ixD (dFrz (dLst (dCons (dC (.int 10)) (dCons (dC (.int 6)) (dCons (dC (.int 3)) dNil))))) (dOp subD (dVar 1) (dC (.int 1)))))) dNil))))))))
  (dRet (dVar 2)))))
def S_l_stretch : DSp := fun ds O R => ∃ ns : List Int, ds = [.scr ns] ∧ ∀ st, StLaw st → R (.lst (encSt st)) O
theorem len_l_stretch (ds : List D) (O : Own) (R : D → Own → Prop) (h : S_l_stretch ds O R) : ds.length = 1 := by obtain ⟨_, rfl, _⟩ := h; rfl
theorem wid_le (k : Nat) : ∀ (st : List Pr), (∀ p ∈ st, (p.2 - p.1).toNat ≤ k) → wid st ≤ st.length * k
  | [], _ => by simp [wid]
  | p :: st, h => by
    have := wid_le k st fun q hq => h q (List.mem_cons_of_mem _ hq)
    have := h p List.mem_cons_self
    show (p.2 - p.1).toNat + wid st ≤ (st.length + 1) * k
    rw [Nat.add_mul]
    omega
theorem sem_l_stretch (ds : List D) (O : Own) (R : D → Own → Prop) (h : S_l_stretch ds O R) : R_l_stretch { nx := fun _ O' => Pure O R .non O', rt := Pure O R } (startD N_l_stretch ds) O := by
  obtain ⟨ns, rfl, h⟩ := h
  refine ⟨ns, 0, rfl, by decide, ?_⟩
  generalize cellAt ns 0 = c
  walk_at "w"
  refine ⟨(by decide : (0 : Int) < 3), ?_⟩
  obtain ⟨M, hM, hM1, hM3⟩ : ∃ M : Nat, 1 + c % 3 = (M : Int) ∧ 1 ≤ M ∧ M ≤ 3 := ⟨(1 + c % 3).toNat, by omega, by omega, by omega⟩
  walk_at "w"
  rw [hM]
  refine ⟨by omega, ?_⟩
  rw [Int.toNat_natCast]
  obtain ⟨W, hW, hW1, hW2, hW3⟩ : ∃ W : Nat, atD [D.int 10, .int 6, .int 3] ((M : Int) - 1) = some (.int (W : Int)) ∧ 1 ≤ W ∧ W ≤ 10 ∧ M * (W - 1) ≤ 10 := by
    have : M = 1 ∨ M = 2 ∨ M = 3 := by omega
    rcases this with rfl | rfl | rfl
    · exact ⟨10, rfl, by decide, by decide, by decide⟩
    · exact ⟨6, rfl, by decide, by decide, by decide⟩
    · exact ⟨3, rfl, by decide, by decide, by decide⟩
  refine forL_rng M (fun j δ O' => ∃ st : List Pr, st.length = j ∧ (∀ p ∈ st, p.1 ≤ p.2 ∧ p.2 - p.1 ≤ W - 1 ∧ -3 ≤ p.1 ∧ p.1 ≤ 2) ∧ (∃ a b c, δ = [some (.scr ns), some (.int M), some (.own O.length), a, b, c]) ∧ O' = O ++ [some (.lst (encSt st))])
    ⟨[], rfl, (fun _ z => by cases z), ⟨_, _, _, rfl⟩, rfl⟩ (fun _ _ _ _ => trivial) ?_ ?_
  · rintro k δ O' nx hk ⟨st, hl, hp, ⟨a, b, c, rfl⟩, rfl⟩ hx
    refine ⟨ns, 1 + (k : Int), rfl, by omega, ?_⟩
    generalize ee : cellAt ns (1 + (k : Int)) = e
    have e0 : 0 ≤ e := ee ▸ cellAt_lo _ _
    walk_at "w"
    refine ⟨(by decide : (0 : Int) < 6), ?_⟩
    walk_at "w"
    rw [asL_top]
    walk_at "w"
    refine ⟨(by decide : (0 : Int) < 6 ∧ (6 : Int) < _), ?_⟩
    walk_at "w"
    rw [hW]
    refine ⟨(by omega : (0 : Int) < (W : Int)), ?_⟩
    walk_at "w"
    rw [top_get]
    walk_at "w"
    refine ⟨by rw [encSt_length]; omega, ?_⟩
    have w1 := Int.emod_nonneg (e / 6) (b := (W : Int)) (by omega)
    have w2 := Int.emod_lt_of_pos (e / 6) (b := (W : Int)) (by omega)
    refine hx _ _ ⟨st ++ [(e % 6 - 3, e % 6 - 3 + e / 6 % W)], by simp [hl], fun p hp' => ?_, ⟨_, _, _, rfl⟩, ?_⟩
    · rcases List.mem_append.mp hp' with z | z
      · exact hp p z
      · rw [List.mem_singleton.mp z]
        show e % 6 - 3 ≤ e % 6 - 3 + e / 6 % W ∧ e % 6 - 3 + e / 6 % W - (e % 6 - 3) ≤ W - 1 ∧ -3 ≤ e % 6 - 3 ∧ e % 6 - 3 ≤ 2
        omega
    · rw [top_set]
      unfold encSt
      rw [List.map_append]
      rfl
  · rintro δ O' ⟨st, hl, hp, ⟨a, b, c, rfl⟩, rfl⟩
    refine ⟨.lst (encSt st), top_take, .own (Nat.le_refl _) top_get (ResL.same (encSt_hd st)), h st ⟨by omega, by omega, fun p q => ?_, fun p q => ?_, ?_⟩⟩
    · have := hp p q; omega
    · have := hp p q; omega
    · have := wid_le (W - 1) st fun p q => by have := hp p q; omega
      rw [hl] at this
      omega
/-! ### _law_all_in -/
theorem inSt_nil {f : List Int} : inSt f [] ↔ f = [] := by
  cases f with
  | nil => exact ⟨fun _ => rfl, fun _ => trivial⟩
  | cons x f => exact ⟨fun h => h.elim, fun h => by cases h⟩
theorem inSt_snoc : ∀ {st : List Pr} {p : Pr} {f : List Int}, inSt f (st ++ [p]) ↔ ∃ g x, f = g ++ [x] ∧ inSt g st ∧ p.1 ≤ x ∧ x ≤ p.2
  | [], p, [] => ⟨fun h => h.elim, fun ⟨g, x, e, _⟩ => by simp at e⟩
  | [], p, [y] => ⟨fun h => ⟨[], y, rfl, trivial, h.1, h.2.1⟩, fun ⟨g, x, e, hg, h1, h2⟩ => by
      have := inSt_nil.mp hg
      subst this
      cases e
      exact ⟨h1, h2, trivial⟩⟩
  | [], p, y :: z :: f => ⟨fun h => h.2.2.elim, fun ⟨g, x, e, hg, _⟩ => by
      have := inSt_nil.mp hg
      subst this
      cases e⟩
  | q :: st, p, [] => ⟨fun h => h.elim, fun ⟨g, x, e, _⟩ => by simp at e⟩
  | q :: st, p, y :: f => by
    constructor
    · rintro ⟨h1, h2, h3⟩
      obtain ⟨g, x, rfl, hg, a, b⟩ := inSt_snoc.mp h3
      exact ⟨y :: g, x, rfl, ⟨h1, h2, hg⟩, a, b⟩
    · rintro ⟨g, x, e, hg, a, b⟩
      cases g with
      | nil => exact hg.elim
      | cons z g =>
        cases e
        exact ⟨hg.1, hg.2.1, inSt_snoc.mpr ⟨g, x, rfl, hg.2.2, a, b⟩⟩
theorem inSt_length : ∀ {f : List Int} {st : List Pr}, inSt f st → f.length = st.length
  | [], [], _ => rfl
  | _ :: f, _ :: st, h => by simpa using inSt_length h.2.2
  | [], _ :: _, h => h.elim
  | _ :: _, [], h => h.elim
def encFs (L : List (List Int)) : List D := L.map fun f => .lst (encI f)
def N_l_all_in : List Str := ["_law_stretch_here", "_law_found", "_law_pair", "_law_more", "_law_filling", "_law_held"]
def R_l_all_in : DS :=
  (dSeq (dAsg (dFrz (dLst (dCons (dFrz (dLst dNil)) dNil))) (dgName 1))
  (dSeq (dFor (diL (dVar 0)) (dgName 2) (dSeq (dAsg (dFrz (dLst dNil)) (dgName 3))
  (dSeq (dFor (diL (dVar 1)) (dgName 4) (dAsg (dOp addD (dVar 3) (dFrz (dLc (diR2 (dOp ixD (dVar 2) (dC (.int 0))) (dOp addD (dOp ixD (dVar 2) (dC (.int 1))) (dC (.int 1)))) (dgName 5) dYes (dOp addD (dVar 4) (dFrz (dLst (dCons (dVar 5) dNil)))) [5]))) (dgName 3)))
  (dAsg (dVar 3) (dgName 1)))))
  (dRet (dVar 1))))
def S_l_all_in : DSp := fun ds O R => ∃ st : List Pr, ds = [.lst (encSt st)] ∧ StLaw st ∧ ∀ L : List (List Int), (∀ f, f ∈ L ↔ inSt f st) → L.length ≤ 1000 → R (.lst (encFs L)) O
theorem len_l_all_in (ds : List D) (O : Own) (R : D → Own → Prop) (h : S_l_all_in ds O R) : ds.length = 1 := by obtain ⟨_, rfl, _⟩ := h; rfl
theorem encFs_hd {n : Nat} (L : List (List Int)) : HdL n (encFs L) := HdL.of fun d hd => by
  obtain ⟨p, _, rfl⟩ := List.mem_map.mp hd
  exact .lst (encI_hd _)
theorem flat_len {L : List (List Int)} {k : Nat} {f : List Int → List (List Int)} (h : ∀ g ∈ L, (f g).length ≤ k) : (L.flatMap f).length ≤ L.length * k := by
  induction L with
  | nil => simp
  | cons g L ih =>
    rw [List.flatMap_cons, List.length_append, List.length_cons, Nat.add_mul]
    have := h g List.mem_cons_self
    have := ih fun x hx => h x (List.mem_cons_of_mem _ hx)
    omega
def spread (p : Pr) (g : List Int) : List (List Int) := (List.range (p.2 + 1 - p.1).toNat).map fun i => g ++ [p.1 + (i : Nat)]
theorem spread_mem {p : Pr} {g f : List Int} : f ∈ spread p g ↔ ∃ x, f = g ++ [x] ∧ p.1 ≤ x ∧ x ≤ p.2 := by
  unfold spread
  rw [List.mem_map]
  constructor
  · rintro ⟨i, hi, rfl⟩
    have := List.mem_range.mp hi
    exact ⟨_, rfl, by omega, by omega⟩
  · rintro ⟨x, rfl, h1, h2⟩
    refine ⟨(x - p.1).toNat, List.mem_range.mpr (by omega), ?_⟩
    have : p.1 + (((x - p.1).toNat : Nat) : Int) = x := by omega
    rw [this]
theorem encFs_append (A B : List (List Int)) : encFs (A ++ B) = encFs A ++ encFs B := by unfold encFs; rw [List.map_append]
theorem sem_l_all_in (ds : List D) (O : Own) (R : D → Own → Prop) (h : S_l_all_in ds O R) : R_l_all_in { nx := fun _ O' => Pure O R .non O', rt := Pure O R } (startD N_l_all_in ds) O := by
  obtain ⟨st, rfl, ok, h⟩ := h
  refine forL_rngI encP st (fun j δ O' => O' = O ∧ ∃ L : List (List Int), (∀ f, f ∈ L ↔ inSt f (st.take j)) ∧ L.length ≤ 10 ^ j ∧ ∃ a b c, δ = [some (.lst (encSt st)), some (.lst (encFs L)), a, b, c, none]) ⟨rfl, [[]], fun f => ?_, by decide, _, _, _, rfl⟩ (fun _ δ O' _ => rfl) ?_ ?_
  · rw [List.take_zero, inSt_nil]
    simp
  · rintro j p δ O' nx hj hp ⟨rfl, L, hL, hn, a, b, c, rfl⟩ hx
    have hpl := ok.le p (List.mem_of_getElem? hp)
    have j3 : j < 3 := by have := ok.few; omega
    have n100 : L.length ≤ 100 := by
      have : j = 0 ∨ j = 1 ∨ j = 2 := by omega
      rcases this with rfl | rfl | rfl <;> omega
    have lenL : ∀ g ∈ L, g.length ≤ 3 := fun g hg => by
      have := inSt_length ((hL g).mp hg)
      rw [List.length_take] at this
      omega
    show forL _ _ _ _ (L.map fun f => D.lst (encI f)) _ _
    refine forL_rngI (fun f => D.lst (encI f)) L (fun i δ O1 => O1 = O' ∧ ∃ c, δ = [some (.lst (encSt st)), some (.lst (encFs L)), some (encP p), some (.lst (encFs ((L.take i).flatMap (spread p)))), c, none]) ⟨rfl, _, rfl⟩ (fun _ _ _ _ => rfl) ?_ ?_
    · rintro i g δ O1 nx2 hi hg ⟨rfl, c, rfl⟩ hx2
      have lg := lenL g (List.mem_of_getElem? hg)
      have lp := ok.lo p (List.mem_of_getElem? hp)
      walk_at "w"
      refine ⟨⟨by omega, by omega, by omega, by omega⟩, ?_⟩
      have e1 : rngD p.1 (p.2 + 1 - p.1).toNat = (List.range (p.2 + 1 - p.1).toNat).map fun i => D.int (p.1 + (i : Nat)) := rfl
      rw [e1]
      refine lc_list (fun i : Nat => D.int (p.1 + (i : Nat))) (fun i : Nat => .lst (encI (g ++ [p.1 + (i : Nat)]))) trivial _ [] (fun x _ Q q => ?_) (by simp; omega) ?_
      · refine ⟨by show (encI g).length + 1 ≤ 100000; rw [encI_length]; omega, ?_⟩
        have : encI g ++ [.int (p.1 + (x : Nat))] = encI (g ++ [p.1 + (x : Nat)]) := by unfold encI; rw [List.map_append]; rfl
        rw [this]
        exact q
      have e2 : ([] : List D) ++ (List.range (p.2 + 1 - p.1).toNat).map (fun i : Nat => D.lst (encI (g ++ [p.1 + (i : Nat)]))) = encFs (spread p g) := by unfold encFs spread; rw [List.map_map]; rfl
      rw [e2]
      have f1 : ((L.take i).flatMap (spread p)).length ≤ 1000 := by
        refine Nat.le_trans (flat_len (k := 10) fun x _ => by unfold spread; simp; omega) ?_
        rw [List.length_take]
        omega
      have f2 : (spread p g).length ≤ 10 := by unfold spread; simp; omega
      refine ⟨by unfold encFs; rw [List.length_map, List.length_map]; omega, ?_⟩
      refine hx2 _ _ ⟨rfl, some (.lst (encI g)), ?_⟩
      have e3 : (L.take (i + 1)).flatMap (spread p) = (L.take i).flatMap (spread p) ++ spread p g := by
        have hi' : i < L.length := hi
        rw [List.take_succ_eq_append_getElem hi', List.flatMap_append, List.flatMap_singleton]
        have : L[i] = g := by rw [List.getElem?_eq_getElem hi'] at hg; exact Option.some.inj hg
        rw [this]
      rw [e3, encFs_append]
      rfl
    · rintro δ O1 ⟨rfl, c, rfl⟩
      refine hx _ _ ⟨rfl, L.flatMap (spread p), fun f => ?_, ?_, some (encP p), some (.lst (encFs (L.flatMap (spread p)))), c, ?_⟩
      · rw [List.mem_flatMap]
        have e4 : st.take (j + 1) = st.take j ++ [p] := by
          rw [List.take_succ_eq_append_getElem hj]
          have : st[j] = p := by rw [List.getElem?_eq_getElem hj] at hp; exact Option.some.inj hp
          rw [this]
        rw [e4, inSt_snoc]
        constructor
        · rintro ⟨g, hg, hf⟩
          obtain ⟨x, e, a1, a2⟩ := spread_mem.mp hf
          exact ⟨g, x, e, (hL g).mp hg, a1, a2⟩
        · rintro ⟨g, x, e, hg, a1, a2⟩
          exact ⟨g, (hL g).mpr hg, spread_mem.mpr ⟨x, e, a1, a2⟩⟩
      · have := flat_len (L := L) (k := 10) (f := spread p) fun x _ => by unfold spread; simp; omega
        rw [Nat.pow_succ]
        omega
      · rw [List.take_of_length_le (Nat.le_refl _)]
        rfl
  · rintro δ O' ⟨rfl, L, hL, hn, a, b, c, rfl⟩
    rw [List.take_of_length_le (Nat.le_refl _)] at hL
    refine Pure.same (.lst (encFs_hd L)) (h L hL (Nat.le_trans hn ?_))
    have := ok.few
    exact Nat.pow_le_pow_right (n := 10) (by decide) (by omega : st.length ≤ 3)
end DL

/-! The law k07: holds, changed, trees_right. -/
namespace DL
open PySem L2
local macro_rules | `(tactic| walk_at "w") => `(tactic| conv => whnf)
def allHold (ss : List Sm) (f : List Int) : Bool := ss.all fun s => decide (valS s f ≤ 0)
theorem eq_nil {O : Own} {ns : List Int} {R : D → Own → Prop} (h : R (.bl ns.isEmpty) O) : eqD O (.lst (ns.map D.int)) (.lst []) R := by
  refine eqD_of (Py.lst (PyAll.ints ns)) (Py.lst (PyAll.nil 1)) (by decide) (by decide) ?_
  rw [eqv_lst]
  cases ns with
  | nil => rw [List.map_nil, eqvAll_nil]; exact h
  | cons n ns => rw [List.map_cons, eqvAll_l]; exact h
def N_l_holds : List Str := ["_law_some", "_law_filling", "_law_one"]
def R_l_holds : DS :=
  (dRet (dOp eqD (dFrz (dLc (diL (dVar 0)) (dgName 2) (dTest (dOp gtD (dCall S_l_value (dCons (dVar 2) (dCons (dVar 1) dNil))) (dC (.int 0)))) (dC (.int 1)) [2])) (dFrz (dLst dNil))))
def S_l_holds : DSp := fun ds O R => ∃ (ss : List Sm) (f : List Int), ds = [.lst (encSs ss), .lst (encI f)] ∧ ss.length ≤ 1000 ∧ f.length ≤ 1000 ∧ BdL 60 f ∧ (∀ s ∈ ss, SmOk f.length s) ∧ R (.bl (allHold ss f)) O
theorem len_l_holds (ds : List D) (O : Own) (R : D → Own → Prop) (h : S_l_holds ds O R) : ds.length = 2 := by obtain ⟨_, _, rfl, _⟩ := h; rfl
theorem sem_l_holds (ds : List D) (O : Own) (R : D → Own → Prop) (h : S_l_holds ds O R) : R_l_holds { nx := fun _ O' => Pure O R .non O', rt := Pure O R } (startD N_l_holds ds) O := by
  obtain ⟨ss, f, rfl, hn, hf, b1, hs, h⟩ := h
  walk_at "w"
  refine lc_flist encS (fun s => decide (0 < valS s f)) (fun _ => .int 1) (chk := fun O' => asL O' (.lst (encSs ss)) = some (encSs ss)) rfl ss [] (fun s hs' Q q => ?_) ?_ (by simp; omega) ?_
  · obtain ⟨l1, l2, l3⟩ := hs s hs'
    exact ⟨s, f, rfl, l1, hf, fun x hx => (l2 x hx).mono (by decide), fun x hx => (b1 x hx).mono (by decide), q⟩
  · intro s _ _ Q q
    exact q
  · have e : ([] : List D) ++ (ss.filter fun s => decide (0 < valS s f)).map (fun _ => D.int 1) = ((ss.filter fun s => decide (0 < valS s f)).map fun _ => (1 : Int)).map D.int := by rw [List.map_map]; rfl
    rw [e]
    show eqD O (.lst _) (.lst []) (Pure O R)
    refine eq_nil (Pure.same (.bl _) ?_)
    have e2 : ((ss.filter fun s => decide (0 < valS s f)).map fun _ => (1 : Int)).isEmpty = allHold ss f := by
      unfold allHold
      rw [List.isEmpty_map]
      rw [Bool.eq_iff_iff, List.isEmpty_iff, List.filter_eq_nil_iff, List.all_eq_true]
      constructor
      · intro g x hx
        have := g x hx
        simp at this ⊢
        exact this
      · intro g x hx
        have := g x hx
        simp at this ⊢
        exact this
    rw [e2]
    exact h
/-! ### _law_changed -/
def S_l_changed : Nat → DSp
  | 0 => fun _ _ _ => False
  | n + 1 => fun ds O R => ∃ (t : Tr) (cs : List Int), ds = [encT t, .lst (encI cs)] ∧ 0 < cs.length ∧ cs.length ≤ n + 1 ∧ cs.length ≤ 100 ∧ ∀ t' : Tr, t'.dep ≤ t.dep + 1 → R (encT t') O
def N_l_changed : List Str := ["_law_tree", "_law_cells", "_law_cell", "_law_more", "_law_way"]
def R_l_changed (n : Nat) : DS :=
  (dSeq (dAsg (dOp ixD (dVar 1) (dC (.int 0))) (dgName 2))
  (dSeq (dAsg (dOp ixD (dFrz (dLst (dCons (dC (.int 1)) (dCons (negD (dC (.int 1))) (dCons (dC (.int 2)) (dCons (dVar 2) dNil)))))) (dOp modD (dOp divD (dVar 2) (dC (.int 7))) (dC (.int 4)))) (dgName 3))
  (dSeq (dIfS (dTest (dOp eqD (dOp ixD (dVar 0) (dC (.int 0))) (dC (.str "sum")))) (dRet (dOp ixD (dFrz (dLst (dCons (dTup (dCons (dC (.str "sum")) (dCons (dOp addD (dOp ixD (dVar 0) (dC (.int 1))) (dVar 3)) dNil))) (dCons (dTup (dCons (dC (.str "sum")) (dCons (negD (dC (.int 1))) dNil))) (dCons (dTup (dCons (dC (.str "cut")) (dCons (dOp modD (dVar 2) (dC (.int 3))) (dCons (dOp modD (dOp divD (dVar 2) (dC (.int 3))) (dC (.int 9))) (dCons (dVar 0) (dCons (dVar 0) dNil)))))) dNil))))) (dOp modD (dOp divD (dVar 2) (dC (.int 28))) (dC (.int 3))))) dNext)
  (dSeq (dAsg (dOp modD (dVar 2) (dC (.int 7))) (dgName 4))
  (dSeq (dIfS (dAnd (dTest (dOp ltD (dVar 4) (dC (.int 2)))) (dTest (dOp gtD (dCall1 lenD (dCons (dVar 1) dNil)) (dC (.int 1))))) (dRet (dOp addD (dSl (dVar 0) dNoPart (dPart (dC (.int 3)))) (dTup (dCons (dCall (S_l_changed n) (dCons (dOp ixD (dVar 0) (dC (.int 3))) (dCons (dSl (dVar 1) (dPart (dC (.int 1))) dNoPart) dNil))) (dCons (dOp ixD (dVar 0) (dC (.int 4))) dNil))))) dNext)
  (dSeq (dIfS (dAnd (dTest (dOp ltD (dVar 4) (dC (.int 4)))) (dTest (dOp gtD (dCall1 lenD (dCons (dVar 1) dNil)) (dC (.int 1))))) (dRet (dOp addD (dSl (dVar 0) dNoPart (dPart (dC (.int 4)))) (dTup (dCons (dCall (S_l_changed n) (dCons (dOp ixD (dVar 0) (dC (.int 4))) (dCons (dSl (dVar 1) (dPart (dC (.int 1))) dNoPart) dNil))) dNil)))) dNext)
  (dSeq (dIfS (dTest (dOp eqD (dVar 4) (dC (.int 4)))) (dRet (dOp addD (dTup (dCons (dC (.str "cut")) (dCons (dOp addD (dOp ixD (dVar 0) (dC (.int 1))) (dVar 3)) dNil))) (dSl (dVar 0) (dPart (dC (.int 2))) dNoPart))) dNext)
  (dSeq (dIfS (dTest (dOp eqD (dVar 4) (dC (.int 5)))) (dRet (dOp addD (dTup (dCons (dC (.str "cut")) (dCons (dOp ixD (dVar 0) (dC (.int 1))) (dCons (dOp addD (dOp ixD (dVar 0) (dC (.int 2))) (dVar 3)) dNil)))) (dSl (dVar 0) (dPart (dC (.int 3))) dNoPart))) dNext)
  (dRet (dOp ixD (dFrz (dLst (dCons (dTup (dCons (dC (.str "cut")) (dCons (dOp ixD (dVar 0) (dC (.int 1))) (dCons (dOp ixD (dVar 0) (dC (.int 2))) (dCons (dOp ixD (dVar 0) (dC (.int 4))) (dCons (dOp ixD (dVar 0) (dC (.int 3))) dNil)))))) (dCons (dOp ixD (dVar 0) (dC (.int 3))) dNil)))) (dOp modD (dOp divD (dVar 2) (dC (.int 28))) (dC (.int 2)))))))))))))
theorem len_l_changed (n : Nat) (ds : List D) (O : Own) (R : D → Own → Prop) (h : S_l_changed (n + 1) ds O R) : ds.length = 2 := by obtain ⟨_, _, rfl, _⟩ := h; rfl
theorem pick4 {a b c d : D} {i : Int} (h : 0 ≤ i) (h2 : i < 4) : ∃ x, (x = a ∨ x = b ∨ x = c ∨ x = d) ∧ atD [a, b, c, d] i = some x := by
  have : i = 0 ∨ i = 1 ∨ i = 2 ∨ i = 3 := by omega
  rcases this with rfl | rfl | rfl | rfl
  · exact ⟨a, .inl rfl, rfl⟩
  · exact ⟨b, .inr (.inl rfl), rfl⟩
  · exact ⟨c, .inr (.inr (.inl rfl)), rfl⟩
  · exact ⟨d, .inr (.inr (.inr rfl)), rfl⟩
theorem pick3 {a b c : D} {i : Int} (h : 0 ≤ i) (h2 : i < 3) : ∃ x, (x = a ∨ x = b ∨ x = c) ∧ atD [a, b, c] i = some x := by
  have : i = 0 ∨ i = 1 ∨ i = 2 := by omega
  rcases this with rfl | rfl | rfl
  · exact ⟨a, .inl rfl, rfl⟩
  · exact ⟨b, .inr (.inl rfl), rfl⟩
  · exact ⟨c, .inr (.inr rfl), rfl⟩
theorem pick2 {a b : D} {i : Int} (h : 0 ≤ i) (h2 : i < 2) : ∃ x, (x = a ∨ x = b) ∧ atD [a, b] i = some x := by
  have : i = 0 ∨ i = 1 := by omega
  rcases this with rfl | rfl
  · exact ⟨a, .inl rfl, rfl⟩
  · exact ⟨b, .inr rfl, rfl⟩
def R_l_changed_2 (n : Nat) : DS :=
  (dSeq (dIfS (dTest (dOp eqD (dOp ixD (dVar 0) (dC (.int 0))) (dC (.str "sum")))) (dRet (dOp ixD (dFrz (dLst (dCons (dTup (dCons (dC (.str "sum")) (dCons (dOp addD (dOp ixD (dVar 0) (dC (.int 1))) (dVar 3)) dNil))) (dCons (dTup (dCons (dC (.str "sum")) (dCons (negD (dC (.int 1))) dNil))) (dCons (dTup (dCons (dC (.str "cut")) (dCons (dOp modD (dVar 2) (dC (.int 3))) (dCons (dOp modD (dOp divD (dVar 2) (dC (.int 3))) (dC (.int 9))) (dCons (dVar 0) (dCons (dVar 0) dNil)))))) dNil))))) (dOp modD (dOp divD (dVar 2) (dC (.int 28))) (dC (.int 3))))) dNext)
  (dSeq (dAsg (dOp modD (dVar 2) (dC (.int 7))) (dgName 4))
  (dSeq (dIfS (dAnd (dTest (dOp ltD (dVar 4) (dC (.int 2)))) (dTest (dOp gtD (dCall1 lenD (dCons (dVar 1) dNil)) (dC (.int 1))))) (dRet (dOp addD (dSl (dVar 0) dNoPart (dPart (dC (.int 3)))) (dTup (dCons (dCall (S_l_changed n) (dCons (dOp ixD (dVar 0) (dC (.int 3))) (dCons (dSl (dVar 1) (dPart (dC (.int 1))) dNoPart) dNil))) (dCons (dOp ixD (dVar 0) (dC (.int 4))) dNil))))) dNext)
  (dSeq (dIfS (dAnd (dTest (dOp ltD (dVar 4) (dC (.int 4)))) (dTest (dOp gtD (dCall1 lenD (dCons (dVar 1) dNil)) (dC (.int 1))))) (dRet (dOp addD (dSl (dVar 0) dNoPart (dPart (dC (.int 4)))) (dTup (dCons (dCall (S_l_changed n) (dCons (dOp ixD (dVar 0) (dC (.int 4))) (dCons (dSl (dVar 1) (dPart (dC (.int 1))) dNoPart) dNil))) dNil)))) dNext)
  (dSeq (dIfS (dTest (dOp eqD (dVar 4) (dC (.int 4)))) (dRet (dOp addD (dTup (dCons (dC (.str "cut")) (dCons (dOp addD (dOp ixD (dVar 0) (dC (.int 1))) (dVar 3)) dNil))) (dSl (dVar 0) (dPart (dC (.int 2))) dNoPart))) dNext)
  (dSeq (dIfS (dTest (dOp eqD (dVar 4) (dC (.int 5)))) (dRet (dOp addD (dTup (dCons (dC (.str "cut")) (dCons (dOp ixD (dVar 0) (dC (.int 1))) (dCons (dOp addD (dOp ixD (dVar 0) (dC (.int 2))) (dVar 3)) dNil)))) (dSl (dVar 0) (dPart (dC (.int 3))) dNoPart))) dNext)
  (dRet (dOp ixD (dFrz (dLst (dCons (dTup (dCons (dC (.str "cut")) (dCons (dOp ixD (dVar 0) (dC (.int 1))) (dCons (dOp ixD (dVar 0) (dC (.int 2))) (dCons (dOp ixD (dVar 0) (dC (.int 4))) (dCons (dOp ixD (dVar 0) (dC (.int 3))) dNil)))))) (dCons (dOp ixD (dVar 0) (dC (.int 3))) dNil)))) (dOp modD (dOp divD (dVar 2) (dC (.int 28))) (dC (.int 2)))))))))))
def R_l_changed_4 (n : Nat) : DS :=
  (dSeq (dIfS (dAnd (dTest (dOp ltD (dVar 4) (dC (.int 2)))) (dTest (dOp gtD (dCall1 lenD (dCons (dVar 1) dNil)) (dC (.int 1))))) (dRet (dOp addD (dSl (dVar 0) dNoPart (dPart (dC (.int 3)))) (dTup (dCons (dCall (S_l_changed n) (dCons (dOp ixD (dVar 0) (dC (.int 3))) (dCons (dSl (dVar 1) (dPart (dC (.int 1))) dNoPart) dNil))) (dCons (dOp ixD (dVar 0) (dC (.int 4))) dNil))))) dNext)
  (dSeq (dIfS (dAnd (dTest (dOp ltD (dVar 4) (dC (.int 4)))) (dTest (dOp gtD (dCall1 lenD (dCons (dVar 1) dNil)) (dC (.int 1))))) (dRet (dOp addD (dSl (dVar 0) dNoPart (dPart (dC (.int 4)))) (dTup (dCons (dCall (S_l_changed n) (dCons (dOp ixD (dVar 0) (dC (.int 4))) (dCons (dSl (dVar 1) (dPart (dC (.int 1))) dNoPart) dNil))) dNil)))) dNext)
  (dSeq (dIfS (dTest (dOp eqD (dVar 4) (dC (.int 4)))) (dRet (dOp addD (dTup (dCons (dC (.str "cut")) (dCons (dOp addD (dOp ixD (dVar 0) (dC (.int 1))) (dVar 3)) dNil))) (dSl (dVar 0) (dPart (dC (.int 2))) dNoPart))) dNext)
  (dSeq (dIfS (dTest (dOp eqD (dVar 4) (dC (.int 5)))) (dRet (dOp addD (dTup (dCons (dC (.str "cut")) (dCons (dOp ixD (dVar 0) (dC (.int 1))) (dCons (dOp addD (dOp ixD (dVar 0) (dC (.int 2))) (dVar 3)) dNil)))) (dSl (dVar 0) (dPart (dC (.int 3))) dNoPart))) dNext)
  (dRet (dOp ixD (dFrz (dLst (dCons (dTup (dCons (dC (.str "cut")) (dCons (dOp ixD (dVar 0) (dC (.int 1))) (dCons (dOp ixD (dVar 0) (dC (.int 2))) (dCons (dOp ixD (dVar 0) (dC (.int 4))) (dCons (dOp ixD (dVar 0) (dC (.int 3))) dNil)))))) (dCons (dOp ixD (dVar 0) (dC (.int 3))) dNil)))) (dOp modD (dOp divD (dVar 2) (dC (.int 28))) (dC (.int 2)))))))))
def R_l_changed_5 (n : Nat) : DS :=
  (dSeq (dIfS (dAnd (dTest (dOp ltD (dVar 4) (dC (.int 4)))) (dTest (dOp gtD (dCall1 lenD (dCons (dVar 1) dNil)) (dC (.int 1))))) (dRet (dOp addD (dSl (dVar 0) dNoPart (dPart (dC (.int 4)))) (dTup (dCons (dCall (S_l_changed n) (dCons (dOp ixD (dVar 0) (dC (.int 4))) (dCons (dSl (dVar 1) (dPart (dC (.int 1))) dNoPart) dNil))) dNil)))) dNext)
  (dSeq (dIfS (dTest (dOp eqD (dVar 4) (dC (.int 4)))) (dRet (dOp addD (dTup (dCons (dC (.str "cut")) (dCons (dOp addD (dOp ixD (dVar 0) (dC (.int 1))) (dVar 3)) dNil))) (dSl (dVar 0) (dPart (dC (.int 2))) dNoPart))) dNext)
  (dSeq (dIfS (dTest (dOp eqD (dVar 4) (dC (.int 5)))) (dRet (dOp addD (dTup (dCons (dC (.str "cut")) (dCons (dOp ixD (dVar 0) (dC (.int 1))) (dCons (dOp addD (dOp ixD (dVar 0) (dC (.int 2))) (dVar 3)) dNil)))) (dSl (dVar 0) (dPart (dC (.int 3))) dNoPart))) dNext)
  (dRet (dOp ixD (dFrz (dLst (dCons (dTup (dCons (dC (.str "cut")) (dCons (dOp ixD (dVar 0) (dC (.int 1))) (dCons (dOp ixD (dVar 0) (dC (.int 2))) (dCons (dOp ixD (dVar 0) (dC (.int 4))) (dCons (dOp ixD (dVar 0) (dC (.int 3))) dNil)))))) (dCons (dOp ixD (dVar 0) (dC (.int 3))) dNil)))) (dOp modD (dOp divD (dVar 2) (dC (.int 28))) (dC (.int 2))))))))
def R_l_changed_6 (n : Nat) : DS :=
  (dSeq (dIfS (dTest (dOp eqD (dVar 4) (dC (.int 4)))) (dRet (dOp addD (dTup (dCons (dC (.str "cut")) (dCons (dOp addD (dOp ixD (dVar 0) (dC (.int 1))) (dVar 3)) dNil))) (dSl (dVar 0) (dPart (dC (.int 2))) dNoPart))) dNext)
  (dSeq (dIfS (dTest (dOp eqD (dVar 4) (dC (.int 5)))) (dRet (dOp addD (dTup (dCons (dC (.str "cut")) (dCons (dOp ixD (dVar 0) (dC (.int 1))) (dCons (dOp addD (dOp ixD (dVar 0) (dC (.int 2))) (dVar 3)) dNil)))) (dSl (dVar 0) (dPart (dC (.int 3))) dNoPart))) dNext)
  (dRet (dOp ixD (dFrz (dLst (dCons (dTup (dCons (dC (.str "cut")) (dCons (dOp ixD (dVar 0) (dC (.int 1))) (dCons (dOp ixD (dVar 0) (dC (.int 2))) (dCons (dOp ixD (dVar 0) (dC (.int 4))) (dCons (dOp ixD (dVar 0) (dC (.int 3))) dNil)))))) (dCons (dOp ixD (dVar 0) (dC (.int 3))) dNil)))) (dOp modD (dOp divD (dVar 2) (dC (.int 28))) (dC (.int 2)))))))
def R_l_changed_7 (n : Nat) : DS :=
  (dSeq (dIfS (dTest (dOp eqD (dVar 4) (dC (.int 5)))) (dRet (dOp addD (dTup (dCons (dC (.str "cut")) (dCons (dOp ixD (dVar 0) (dC (.int 1))) (dCons (dOp addD (dOp ixD (dVar 0) (dC (.int 2))) (dVar 3)) dNil)))) (dSl (dVar 0) (dPart (dC (.int 3))) dNoPart))) dNext)
  (dRet (dOp ixD (dFrz (dLst (dCons (dTup (dCons (dC (.str "cut")) (dCons (dOp ixD (dVar 0) (dC (.int 1))) (dCons (dOp ixD (dVar 0) (dC (.int 2))) (dCons (dOp ixD (dVar 0) (dC (.int 4))) (dCons (dOp ixD (dVar 0) (dC (.int 3))) dNil)))))) (dCons (dOp ixD (dVar 0) (dC (.int 3))) dNil)))) (dOp modD (dOp divD (dVar 2) (dC (.int 28))) (dC (.int 2))))))
def R_l_changed_8 (n : Nat) : DS :=
  (dRet (dOp ixD (dFrz (dLst (dCons (dTup (dCons (dC (.str "cut")) (dCons (dOp ixD (dVar 0) (dC (.int 1))) (dCons (dOp ixD (dVar 0) (dC (.int 2))) (dCons (dOp ixD (dVar 0) (dC (.int 4))) (dCons (dOp ixD (dVar 0) (dC (.int 3))) dNil)))))) (dCons (dOp ixD (dVar 0) (dC (.int 3))) dNil)))) (dOp modD (dOp divD (dVar 2) (dC (.int 28))) (dC (.int 2)))))
theorem sem_l_changed_sum (n : Nat) {i c m : Int} {cs : List Int} {O : Own} {E : DEnds} {x : Option D} (h : ∀ t' : Tr, t'.dep ≤ 2 → E.rt (encT t') O) : R_l_changed_2 n E [some (encT (.sum i)), some (.lst (encI cs)), some (.int c), some (.int m), x] O := by
  walk_at "w"
  refine strT ok_sum ?_
  walk_at "w"
  refine ⟨(by decide : (0 : Int) < 3), ?_⟩
  walk_at "w"
  refine ⟨(by decide : (0 : Int) < 3 ∧ (3 : Int) < _), ?_⟩
  walk_at "w"
  refine ⟨(by decide : (0 : Int) < 9), ?_⟩
  walk_at "w"
  refine ⟨(by decide : (0 : Int) < 28 ∧ (28 : Int) < _), ?_⟩
  walk_at "w"
  refine ⟨(by decide : (0 : Int) < 3), ?_⟩
  walk_at "w"
  obtain ⟨x, hx, e⟩ := pick3 (a := encT (.sum (i + m))) (b := encT (.sum (-1))) (c := encT (.cut (c % 3) (c / 3 % 9) (.sum i) (.sum i))) (i := c / 28 % 3) (by omega) (by omega)
  have e' : atD [D.tup [.str "sum", .int (i + m)], .tup [.str "sum", .int (-1)], .tup [.str "cut", .int (c % 3), .int (c / 3 % 9), encT (.sum i), encT (.sum i)]] (c / 28 % 3) = some x := e
  rw [e']
  rcases hx with rfl | rfl | rfl
  · exact h _ (by show (1 : Nat) ≤ 2; decide)
  · exact h _ (by show (1 : Nat) ≤ 2; decide)
  · exact h _ (by show (1 : Nat) + max 1 1 ≤ 2; decide)
theorem sem_l_changed_cut (n : Nat) {b k c m : Int} {l r : Tr} {cs : List Int} {O : Own} {E : DEnds} {x : Option D} (hn : cs.length ≤ n) (h100 : cs.length ≤ 99) (h : ∀ t' : Tr, t'.dep ≤ (Tr.cut b k l r).dep + 1 → E.rt (encT t') O) : R_l_changed_2 n E [some (encT (.cut b k l r)), some (.lst (encI (c :: cs))), some (.int c), some (.int m), x] O := by
  have hd : (Tr.cut b k l r).dep = 1 + max l.dep r.dep := rfl
  have cc : cutD (encI (c :: cs)) (some 1) none = encI cs := cut_hi (b := 1) (by rw [encI_length]; simp)
  have recu : ∀ (t : Tr) (G : D → Own → Prop), 0 < cs.length → (∀ t' : Tr, t'.dep ≤ t.dep + 1 → G (encT t') O) → S_l_changed n [encT t, .lst (cutD (encI (c :: cs)) (some 1) none)] O G := fun t G h0 g => by
    cases n with
    | zero => omega
    | succ n => exact ⟨t, cs, by rw [cc], h0, hn, by omega, g⟩
  have rest6 : R_l_changed_6 n E [some (encT (.cut b k l r)), some (.lst (encI (c :: cs))), some (.int c), some (.int m), some (.int (c % 7))] O := by
    walk_at "w"
    refine ifD (fun _ => ?_) (fun _ => ?_)
    · walk_at "w"
      refine ⟨(by decide : 2 + 3 ≤ 100000), ?_⟩
      exact h (.cut (b + m) k l r) (by show 1 + max l.dep r.dep ≤ _; omega)
    walk_at "w"
    refine ifD (fun _ => ?_) (fun _ => ?_)
    · walk_at "w"
      refine ⟨(by decide : 3 + 2 ≤ 100000), ?_⟩
      exact h (.cut b (k + m) l r) (by show 1 + max l.dep r.dep ≤ _; omega)
    walk_at "w"
    refine ⟨(by decide : (0 : Int) < 28 ∧ (28 : Int) < _), ?_⟩
    walk_at "w"
    refine ⟨(by decide : (0 : Int) < 2), ?_⟩
    walk_at "w"
    obtain ⟨x, hx, e⟩ := pick2 (a := encT (.cut b k r l)) (b := encT l) (i := c / 28 % 2) (by omega) (by omega)
    have e' : atD [D.tup [.str "cut", .int b, .int k, encT r, encT l], encT l] (c / 28 % 2) = some x := e
    rw [e']
    rcases hx with rfl | rfl
    · exact h (.cut b k r l) (by show 1 + max r.dep l.dep ≤ _; omega)
    · exact h l (by omega)
  have rest5 : R_l_changed_5 n E [some (encT (.cut b k l r)), some (.lst (encI (c :: cs))), some (.int c), some (.int m), some (.int (c % 7))] O := by
    walk_at "w"
    refine ifD (fun _ => ?_) (fun _ => rest6)
    walk_at "w"
    rw [encI_length]
    refine ifD (fun e => ?_) (fun _ => rest6)
    refine recu r _ (by rw [List.length_cons] at e; omega) fun t' ht => ?_
    walk_at "w"
    refine ⟨(by decide : 4 + 1 ≤ 100000), ?_⟩
    exact h (.cut b k l t') (by show 1 + max l.dep t'.dep ≤ _; omega)
  walk_at "w"
  refine strF ok_cut ok_sum cut_ne ?_
  walk_at "w"
  refine ⟨(by decide : (0 : Int) < 7), ?_⟩
  walk_at "w"
  refine ifD (fun _ => ?_) (fun _ => rest5)
  walk_at "w"
  rw [encI_length]
  refine ifD (fun e => ?_) (fun _ => rest5)
  refine recu l _ (by rw [List.length_cons] at e; omega) fun t' ht => ?_
  walk_at "w"
  refine ⟨(by decide : 3 + 2 ≤ 100000), ?_⟩
  exact h (.cut b k t' r) (by show 1 + max t'.dep r.dep ≤ _; omega)
theorem sem_l_changed (n : Nat) (ds : List D) (O : Own) (R : D → Own → Prop) (h : S_l_changed (n + 1) ds O R) : R_l_changed n { nx := fun _ O' => Pure O R .non O', rt := Pure O R } (startD N_l_changed ds) O := by
  obtain ⟨t, cs, rfl, h0, hn, h100, h⟩ := h
  cases cs with
  | nil => simp at h0
  | cons c cs =>
    rw [List.length_cons] at hn h100
    walk_at "w"
    refine ⟨(by decide : (0 : Int) < 7 ∧ (7 : Int) < _), ?_⟩
    walk_at "w"
    refine ⟨(by decide : (0 : Int) < 4), ?_⟩
    obtain ⟨m, hm⟩ : ∃ m : Int, atD [D.int 1, .int (-1), .int 2, .int c] (c / 7 % 4) = some (.int m) := by
      obtain ⟨x, hx, e⟩ := pick4 (a := D.int 1) (b := .int (-1)) (c := .int 2) (d := .int c) (i := c / 7 % 4) (by omega) (by omega)
      rcases hx with rfl | rfl | rfl | rfl
      · exact ⟨_, e⟩
      · exact ⟨_, e⟩
      · exact ⟨_, e⟩
      · exact ⟨_, e⟩
    walk_at "w"
    rw [hm]
    cases t with
    | sum i => exact sem_l_changed_sum n fun t' ht => Pure.same (encT_hd _) (h t' ht)
    | cut b k l r => exact sem_l_changed_cut n (by omega) (by omega) fun t' ht => Pure.same (encT_hd _) (h t' ht)
/-! ### _law_trees_right -/
def N_l_trees_right : List Str := ["_law_stretch_here", "_law_some", "_law_tree", "_law_script", "_law_one", "_law_handed", "_law_found", "_law_k"]
def R_l_trees_right : DS :=
  (dSeq (dFor (diL (dFrz (dLst (dCons (dVar 2) (dCons (dCall (S_l_changed 5) (dCons (dVar 2) (dCons (dFrz (dLc (diR1 (dC (.int 5))) (dgName 7) dYes (dCall S_l_at (dCons (dVar 3) (dCons (dOp addD (dC (.int 30)) (dVar 7)) dNil))) [7])) dNil))) (dCons (dVar 2) dNil)))))) (dgName 4) (dSeq (dAsg (dFrz (dLst (dCons (dFrz (dList (dVar 0))) (dCons (dFrz (dList (dVar 1))) dNil)))) (dgName 5))
  (dSeq (dAsg (dCall (S_is_tree 12) (dCons (dOp ixD (dVar 5) (dC (.int 0))) (dCons (dOp ixD (dVar 5) (dC (.int 1))) (dCons (dVar 4) dNil)))) (dgName 6))
  (dIfS (dOr (dNot (dTest (dIsi .bl (dVar 6)))) (dOr (dTest (dOp neD (dVar 6) (dCall (S_l_is_tree 12) (dCons (dVar 0) (dCons (dVar 1) (dCons (dVar 4) dNil)))))) (dTest (dOp neD (dVar 5) (dFrz (dLst (dCons (dVar 0) (dCons (dVar 1) dNil)))))))) (dRet (dC (.bl false))) dNext))))
  (dRet (dC (.bl true))))
def R_l_trees_right_b0 : DS :=
  (dSeq (dAsg (dFrz (dLst (dCons (dFrz (dList (dVar 0))) (dCons (dFrz (dList (dVar 1))) dNil)))) (dgName 5))
  (dSeq (dAsg (dCall (S_is_tree 12) (dCons (dOp ixD (dVar 5) (dC (.int 0))) (dCons (dOp ixD (dVar 5) (dC (.int 1))) (dCons (dVar 4) dNil)))) (dgName 6))
  (dIfS (dOr (dNot (dTest (dIsi .bl (dVar 6)))) (dOr (dTest (dOp neD (dVar 6) (dCall (S_l_is_tree 12) (dCons (dVar 0) (dCons (dVar 1) (dCons (dVar 4) dNil)))))) (dTest (dOp neD (dVar 5) (dFrz (dLst (dCons (dVar 0) (dCons (dVar 1) dNil)))))))) (dRet (dC (.bl false))) dNext)))
def S_l_trees_right : DSp := fun ds O R => ∃ (st : List Pr) (ss : List Sm) (t : Tr) (ns : List Int), ds = [.lst (encSt st), .lst (encSs ss), encT t, .scr ns] ∧ st.length ≤ 100 ∧ ss.length ≤ 1000 ∧ (∀ s ∈ ss, SmOk st.length s) ∧ t.dep ≤ 11 ∧ R (.bl true) O
theorem len_l_trees_right (ds : List D) (O : Own) (R : D → Own → Prop) (h : S_l_trees_right ds O R) : ds.length = 4 := by obtain ⟨_, _, _, _, rfl, _⟩ := h; rfl
def pS (s : Sm) : PyData := .tuple [.tuple (s.1.map PyData.int), .int s.2]
theorem py_S (s : Sm) : Py 3 (encS s) (pS s) := .tup (.cons ((Py.tup (PyAll.ints s.1)).mono (by decide)) (.cons ((Py.int _).mono (by decide)) (.nil _)))
def pP (p : Pr) : PyData := .tuple [.int p.1, .int p.2]
theorem py_P (p : Pr) : Py 2 (encP p) (pP p) := .tup (.cons (Py.int _) (.cons (Py.int _) (.nil _)))
theorem py_hand (st : List Pr) (ss : List Sm) : Py 5 (.lst [.lst (encSt st), .lst (encSs ss)]) (.list [.list (st.map pP), .list (ss.map pS)]) :=
  .lst (.cons ((Py.lst (PyAll.map encP pP st fun p _ => py_P p)).mono (by decide)) (.cons ((Py.lst (PyAll.map encS pS ss fun s _ => py_S s)).mono (by decide)) (.nil _)))
theorem sem_l_trees_right (ds : List D) (O : Own) (R : D → Own → Prop) (h : S_l_trees_right ds O R) : R_l_trees_right { nx := fun _ O' => Pure O R .non O', rt := Pure O R } (startD N_l_trees_right ds) O := by
  obtain ⟨st, ss, t, ns, rfl, hn, hm, hs, hd, h⟩ := h
  walk_at "w"
  refine ⟨by omega, ?_⟩
  refine lc_rng (fun j => .int (cellAt ns (30 + (j : Int)))) trivial (by decide) (fun j hj Q q => ?_) ?_
  · exact ⟨ns, 30 + (j : Int), rfl, by omega, q⟩
  have e1 : (List.range ((5 : Int)).toNat).map (fun j : Nat => D.int (cellAt ns (30 + (j : Int)))) = encI ((List.range 5).map fun j : Nat => cellAt ns (30 + (j : Int))) := by rw [encI, List.map_map]; rfl
  refine ⟨t, (List.range 5).map fun j : Nat => cellAt ns (30 + (j : Int)), by rw [← e1], by simp, by simp, by simp, fun t' ht' => ?_⟩
  have round : ∀ (x : Tr) (nx bk ct : DSt → Own → Prop) (a b c : Option D), x.dep ≤ 12 → (∀ a b c, nx [some (.lst (encSt st)), some (.lst (encSs ss)), some (encT t), some (.scr ns), a, b, c, none] O) →
      R_l_trees_right_b0 { nx := nx, rt := Pure O R, bk := bk, ct := ct } [some (.lst (encSt st)), some (.lst (encSs ss)), some (encT t), some (.scr ns), some (encT x), b, c, none] O := by
    intro x nx bk ct a b c dx hnx
    walk_at "w"
    refine ⟨st, ss, x, _, _, rfl, rfl, rfl, hn, hm, hs, dx, ?_⟩
    walk_at "w"
    refine ⟨st, ss, x, rfl, hn, hm, hs, dx, ?_⟩
    walk_at "w"
    refine ifF (by rw [eqv_bool, beq_self_eq_true]; rfl) ?_
    walk_at "w"
    have q : pyD O 40 (.lst [.lst (encSt st), .lst (encSs ss)]) = some (.list [.list (st.map pP), .list (ss.map pS)]) := py_hand st ss O 40 (by decide)
    rw [q]
    walk_at "w"
    try (rw [q]; walk_at "w")
    refine ifF (by rw [pyD_refl 40 _ _ q]; rfl) ?_
    exact hnx _ _ _
  exact ⟨rfl, round t _ _ _ none none none (by omega) fun a b c => ⟨rfl, round t' _ _ _ a b c (by omega) fun a b c => ⟨rfl, round t _ _ _ a b c (by omega) fun a b c => ⟨rfl, Pure.same (.bl _) h⟩⟩⟩⟩
end DL

/-! The law k07. -/
namespace DL
open PySem L2
local macro_rules | `(tactic| walk_at "w") => `(tactic| conv => whnf)
theorem py_own {O : Own} {k n : Nat} {ds : List D} {ps : List PyData} (e : O[k]? = some (some (.lst ds))) (h : pyL (pyD O n) ds = some ps) : pyD O (n + 1) (.own k) = some (.list ps) := by
  unfold pyD
  dsimp only
  rw [e]
  show (pyL (pyD O n) ds).map PyData.list = _
  rw [h]
  rfl
theorem py_lst2 {O : Own} {n : Nat} {a b : D} {p q : PyData} (h : pyD O n a = some p) (g : pyD O n b = some q) : pyD O (n + 1) (.lst [a, b]) = some (.list [p, q]) := by
  show (pyL (pyD O n) [a, b]).map PyData.list = _
  have e : pyL (pyD O n) [a, b] = some [p, q] := by
    show (match pyD O n a, (match pyD O n b, some [] with | some p, some ps => some (p :: ps) | _, _ => none) with | some p, some ps => some (p :: ps) | _, _ => none) = _
    rw [h, g]
  rw [e]
  rfl
theorem two0 {O : Own} {a b : Option DO} : (O ++ [a, b])[O.length]? = some a := by rw [List.getElem?_append_right (Nat.le_refl _), Nat.sub_self]; rfl
theorem two1 {O : Own} {a b : Option DO} : (O ++ [a, b])[O.length + 1]? = some b := by rw [List.getElem?_append_right (by omega)]; rw [show O.length + 1 - O.length = 1 from by omega]; rfl
theorem set0 {O : Own} {a b c : Option DO} : (O ++ [a, b]).set O.length c = O ++ [c, b] := by rw [List.set_append_right _ _ (Nat.le_refl _), Nat.sub_self]; rfl
theorem set1 {O : Own} {a b c : Option DO} : (O ++ [a, b]).set (O.length + 1) c = O ++ [a, c] := by rw [List.set_append_right _ _ (by omega)]; rw [show O.length + 1 - O.length = 1 from by omega]; rfl
theorem asL0 {O : Own} {x y : List D} : asL (O ++ [some (.lst x), some (.lst y)]) (.own O.length) = some x := by unfold asL; dsimp only; rw [two0]
theorem asL1 {O : Own} {x y : List D} : asL (O ++ [some (.lst x), some (.lst y)]) (.own (O.length + 1)) = some y := by unfold asL; dsimp only; rw [two1]
/-! ### the plain law: a tree is right -/
theorem mn_le {a lo hi x : Int} (h1 : lo ≤ x) (h2 : x ≤ hi) : mn (a * lo) (a * hi) ≤ a * x := by
  unfold mn
  by_cases e : 0 ≤ a
  · have h3 : a * lo ≤ a * x := Int.mul_le_mul_of_nonneg_left h1 e
    have h4 : a * x ≤ a * hi := Int.mul_le_mul_of_nonneg_left h2 e
    rw [if_neg (by omega)]
    exact h3
  · have h3 : a * x ≤ a * lo := Int.mul_le_mul_of_nonpos_left (by omega) h1
    have h4 : a * hi ≤ a * x := Int.mul_le_mul_of_nonpos_left (by omega) h2
    split <;> omega
theorem least_le : ∀ (ns : List Int) (st : List Pr) (f : List Int), inSt f st → ldot ns st ≤ dot ns f
  | [], _, _, _ => by unfold ldot dot; exact Int.le_refl _
  | _ :: _, [], [], _ => by unfold ldot dot; exact Int.le_refl _
  | n :: ns, p :: st, x :: f, h => by
    have ih := least_le ns st f h.2.2
    have := mn_le (a := n) h.1 h.2.1
    show mn (n * p.1) (n * p.2) + ldot ns st ≤ n * x + dot ns f
    omega
  | _ :: _, [], _ :: _, h => h.elim
  | _ :: _, _ :: _, [], h => h.elim
theorem inSt_cut : ∀ {st : List Pr} {b : Nat} {p : Pr} {f : List Int} (m : Int), st[b]? = some p → inSt f st → inSt f (st.set b (p.1, m)) ∨ inSt f (st.set b (m + 1, p.2))
  | [], b, p, f, m, h, _ => by cases h
  | r :: st, 0, p, [], m, h, g => g.elim
  | r :: st, 0, p, x :: f, m, h, g => by
    cases h
    obtain ⟨g1, g2, g3⟩ := g
    by_cases e : x ≤ m
    · exact .inl ⟨g1, e, g3⟩
    · exact .inr ⟨by show m + 1 ≤ x; omega, g2, g3⟩
  | r :: st, b + 1, p, [], m, h, g => g.elim
  | r :: st, b + 1, p, x :: f, m, h, g => by
    obtain ⟨g1, g2, g3⟩ := g
    rcases inSt_cut (st := st) m h g3 with z | z
    · exact .inl ⟨g1, g2, z⟩
    · exact .inr ⟨g1, g2, z⟩
theorem isT_sound (ss : List Sm) (f : List Int) : ∀ (t : Tr) (st : List Pr), isT ss st t = true → inSt f st → ∃ s ∈ ss, 0 < valS s f
  | .sum i, st, h, g => by
    unfold isT at h
    split at h
    · rename_i q
      have hi : i.toNat < ss.length := by omega
      rw [List.getD_eq_getElem?_getD, List.getElem?_eq_getElem hi] at h
      have h' := of_decide_eq_true h
      refine ⟨ss[i.toNat], List.getElem_mem hi, ?_⟩
      have := least_le ss[i.toNat].1 st f g
      have h2 : 0 < ss[i.toNat].2 + ldot ss[i.toNat].1 st := h'
      unfold valS
      omega
    · cases h
  | .cut b m l r, st, h, g => by
    unfold isT at h
    split at h
    · rename_i q
      split at h
      · have hb : b.toNat < st.length := by omega
        have e : st.getD b.toNat (0, 0) = st[b.toNat] := by rw [List.getD_eq_getElem?_getD, List.getElem?_eq_getElem hb]; rfl
        rw [e] at h
        obtain ⟨h1, h2⟩ := Bool.and_eq_true_iff.mp h
        rcases inSt_cut m (List.getElem?_eq_getElem hb) g with z | z
        · exact isT_sound ss f l _ h1 z
        · exact isT_sound ss f r _ h2 z
      · cases h
    · cases h
def PF (st : List Pr) (ss : List Sm) (d : D) : Prop := (∃ t, isT ss st t = true ∧ t.dep ≤ 11 ∧ d = .tup [encT t, .non]) ∨ ∃ f, inSt f st ∧ (∀ s ∈ ss, valS s f ≤ 0) ∧ d = .tup [.non, .lst (encI f)]
def N_law07 : List Str := ["_law_script", "_law_stretch_here", "_law_many", "_law_some", "_law_k", "_law_good", "_law_filling", "_law_handed", "_law_parts", "_law_found", "_law_tree"]
def R_law07 : DS :=
  (dSeq (dAsg (dCall S_l_stretch (dCons (dVar 0) dNil)) (dgName 1))
  (dSeq (dAsg (dCall1 lenD (dCons (dVar 1) dNil)) (dgName 2))
  (dSeq (dAsg (dFrz (dLc (diR1 (dOp addD (dC (.int 1)) (dOp modD (dCall S_l_at (dCons (dVar 0) (dCons (dC (.int 4)) dNil))) (dC (.int 6))))) (dgName 4) dYes (dCall S_l_word (dCons (dCall S_l_at (dCons (dVar 0) (dCons (dOp addD (dC (.int 5)) (dVar 4)) dNil))) (dCons (dVar 2) dNil))) [4])) (dgName 3))
  (dSeq (dAsg (dFrz (dLc (diL (dCall S_l_all_in (dCons (dVar 1) dNil))) (dgName 6) (dTest (dCall S_l_holds (dCons (dVar 3) (dCons (dVar 6) dNil)))) (dVar 6) [6])) (dgName 5))
  (dSeq (dAsg (dFrz (dLst (dCons (dNew (dLst dNil)) (dCons (dNew (dLst dNil)) dNil)))) (dgName 7))
  (dSeq (dFor (diL (dFrz (dLst (dCons (dTup (dCons (dVar 1) (dCons (dVar 3) dNil))) (dCons (dTup (dCons (dFrz (dRev (dVar 1))) (dCons (dSl (dVar 3) dNoPart (dPart (dC (.int 1)))) dNil))) (dCons (dTup (dCons (dVar 1) (dCons (dVar 3) dNil))) dNil)))))) (dgName 8) (dSeq (dDrop (dClr (dOp ixD (dVar 7) (dC (.int 0)))))
  (dSeq (dDrop (dExt (dOp ixD (dVar 7) (dC (.int 0))) (dOp ixD (dVar 8) (dC (.int 0)))))
  (dSeq (dDrop (dClr (dOp ixD (dVar 7) (dC (.int 1)))))
  (dSeq (dDrop (dExt (dOp ixD (dVar 7) (dC (.int 1))) (dOp ixD (dVar 8) (dC (.int 1)))))
  (dSeq (dAsg (dCall (S_tried 11) (dCons (dOp ixD (dVar 7) (dC (.int 0))) (dCons (dOp ixD (dVar 7) (dC (.int 1))) dNil))) (dgName 9))
  (dIfS (dOr (dTest (dOp neD (dVar 7) (dFrz (dLst (dCons (dOp ixD (dVar 8) (dC (.int 0))) (dCons (dOp ixD (dVar 8) (dC (.int 1))) dNil)))))) (dOr (dNot (dTest (dIsi .tup (dVar 9)))) (dTest (dOp neD (dCall1 lenD (dCons (dVar 9) dNil)) (dC (.int 2)))))) (dRet (dC (.bl false))) dNext)))))))
  (dSeq (dAsg (dVar 9) (dgTup 2 (dgCons (dgName 10) (dgCons (dgName 6) dgNil))))
  (dSeq (dIfS (dTest (dOp neD (dVar 5) (dFrz (dLst dNil)))) (dRet (dAndV (dOp isD (dVar 10) (dC .non)) (dAndV (dIsi .lst (dVar 6)) (dOp inD (dVar 6) (dVar 5))))) dNext)
  (dSeq (dIfS (dOr (dTest (dOp notD (dVar 6) (dC .non))) (dNot (dTest (dCall (S_l_is_tree 12) (dCons (dVar 1) (dCons (dVar 3) (dCons (dVar 10) dNil))))))) (dRet (dC (.bl false))) dNext)
  (dRet (dCall S_l_trees_right (dCons (dVar 1) (dCons (dVar 3) (dCons (dVar 10) (dCons (dVar 0) dNil)))))))))))))))
def R_law_b5 : DS :=
  (dSeq (dDrop (dClr (dOp ixD (dVar 7) (dC (.int 0)))))
  (dSeq (dDrop (dExt (dOp ixD (dVar 7) (dC (.int 0))) (dOp ixD (dVar 8) (dC (.int 0)))))
  (dSeq (dDrop (dClr (dOp ixD (dVar 7) (dC (.int 1)))))
  (dSeq (dDrop (dExt (dOp ixD (dVar 7) (dC (.int 1))) (dOp ixD (dVar 8) (dC (.int 1)))))
  (dSeq (dAsg (dCall (S_tried 11) (dCons (dOp ixD (dVar 7) (dC (.int 0))) (dCons (dOp ixD (dVar 7) (dC (.int 1))) dNil))) (dgName 9))
  (dIfS (dOr (dTest (dOp neD (dVar 7) (dFrz (dLst (dCons (dOp ixD (dVar 8) (dC (.int 0))) (dCons (dOp ixD (dVar 8) (dC (.int 1))) dNil)))))) (dOr (dNot (dTest (dIsi .tup (dVar 9)))) (dTest (dOp neD (dCall1 lenD (dCons (dVar 9) dNil)) (dC (.int 2)))))) (dRet (dC (.bl false))) dNext))))))
def R_law_6 : DS :=
  (dSeq (dAsg (dVar 9) (dgTup 2 (dgCons (dgName 10) (dgCons (dgName 6) dgNil))))
  (dSeq (dIfS (dTest (dOp neD (dVar 5) (dFrz (dLst dNil)))) (dRet (dAndV (dOp isD (dVar 10) (dC .non)) (dAndV (dIsi .lst (dVar 6)) (dOp inD (dVar 6) (dVar 5))))) dNext)
  (dSeq (dIfS (dOr (dTest (dOp notD (dVar 6) (dC .non))) (dNot (dTest (dCall (S_l_is_tree 12) (dCons (dVar 1) (dCons (dVar 3) (dCons (dVar 10) dNil))))))) (dRet (dC (.bl false))) dNext)
  (dRet (dCall S_l_trees_right (dCons (dVar 1) (dCons (dVar 3) (dCons (dVar 10) (dCons (dVar 0) dNil)))))))))
def S_law : DSp := fun ds O R => ∃ ns : List Int, ds = [.scr ns] ∧ ns.length ≤ 63 ∧ R (.bl true) O
theorem len_law (ds : List D) (O : Own) (R : D → Own → Prop) (h : S_law ds O R) : ds.length = 1 := by obtain ⟨_, rfl, _⟩ := h; rfl
theorem law7_round {sc : D} {st0 : List Pr} {ss0 : List Sm} {n2 gd : D} {O : Own} {R : D → Own → Prop} (st : List Pr) (ss : List Sm) (ok : StOk st ss) (hw : wid st < 11) (x y : List D) (nx bk ct : DSt → Own → Prop) (a9 : Option D)
    (h : ∀ d, PF st ss d → nx [some sc, some (.lst (encSt st0)), some n2, some (.lst (encSs ss0)), none, some gd, none, some (.lst [.own O.length, .own (O.length + 1)]), some (.tup [.lst (encSt st), .lst (encSs ss)]), some d, none] (O ++ [some (.lst (encSt st)), some (.lst (encSs ss))])) :
    R_law_b5 { nx := nx, rt := Pure O R, bk := bk, ct := ct } [some sc, some (.lst (encSt st0)), some n2, some (.lst (encSs ss0)), none, some gd, none, some (.lst [.own O.length, .own (O.length + 1)]), some (.tup [.lst (encSt st), .lst (encSs ss)]), a9, none] (O ++ [some (.lst x), some (.lst y)]) := by
  walk_at "w"
  rw [two0]
  walk_at "w"
  rw [set0, asL0]
  walk_at "w"
  rw [two0]
  walk_at "w"
  refine ⟨by simp [encSt_length]; have := ok.few; omega, ?_⟩
  rw [set0]
  walk_at "w"
  rw [two1]
  walk_at "w"
  rw [set1, asL1]
  walk_at "w"
  rw [two1]
  walk_at "w"
  refine ⟨by simp [encSs_length]; have := ok.ssf; omega, ?_⟩
  rw [set1, List.nil_append, List.nil_append]
  refine ⟨st, ss, _, _, rfl, asL0, asL1, ok, hw, fun t it dt => ?_, fun f hf hall => ?_⟩
  all_goals
    walk_at "w"
    have q : pyD (O ++ [some (.lst (encSt st)), some (.lst (encSs ss))]) 40 (.lst [.own O.length, .own (O.length + 1)]) = some (.list [.list (st.map pP), .list (ss.map pS)]) :=
      py_lst2 (py_own two0 (PyAll.map encP pP st (fun p _ => py_P p) _ 38 (by decide))) (py_own two1 (PyAll.map encS pS ss (fun s _ => py_S s) _ 38 (by decide)))
    have q2 : pyD (O ++ [some (.lst (encSt st)), some (.lst (encSs ss))]) 40 (.lst [.lst (encSt st), .lst (encSs ss)]) = some (.list [.list (st.map pP), .list (ss.map pS)]) := py_hand st ss _ 40 (by decide)
    rw [q]
    walk_at "w"
    rw [q2]
    walk_at "w"
    refine ifF (by rw [pyD_refl 40 _ _ q2]; rfl) ?_
  · exact h _ (.inl ⟨t, it, dt, rfl⟩)
  · exact h _ (.inr ⟨f, hf, hall, rfl⟩)
theorem StLaw.rev {st : List Pr} (h : StLaw st) : StLaw st.reverse := ⟨by rw [List.length_reverse]; exact h.pos, by rw [List.length_reverse]; exact h.few, fun p hp => h.le p (List.mem_reverse.mp hp), fun p hp => h.lo p (List.mem_reverse.mp hp), by
  have g : ∀ (a b : List Pr), DL.wid (a ++ b) = DL.wid a + DL.wid b := by
    intro a b
    induction a with
    | nil => show DL.wid b = 0 + DL.wid b; omega
    | cons p a ih => show _ + DL.wid (a ++ b) = _ + DL.wid a + DL.wid b; omega
  have : ∀ l : List Pr, DL.wid l.reverse = DL.wid l := by
    intro l
    induction l with
    | nil => rfl
    | cons p l ih =>
      rw [List.reverse_cons, g, ih]
      show DL.wid l + ((p.2 - p.1).toNat + 0) = (p.2 - p.1).toNat + DL.wid l
      omega
  rw [this]
  exact h.wid⟩
theorem inSt_bd0 : ∀ {st : List Pr} {f : List Int}, (∀ p ∈ st, p.1 ≤ p.2 ∧ p.2 - p.1 ≤ 9) → (∀ p ∈ st, -3 ≤ p.1 ∧ p.1 ≤ 2) → inSt f st → BdL 60 f
  | [], [], _, _, _ => fun _ z => by cases z
  | p :: st, x :: f, h1, h2, h => fun y hy => by
    rcases List.mem_cons.mp hy with rfl | z
    · have a := h1 p List.mem_cons_self
      have b := h2 p List.mem_cons_self
      have c := h.1
      have d := h.2.1
      exact Bd.of 20 (by omega) (by decide)
    · exact inSt_bd0 (fun q hq => h1 q (List.mem_cons_of_mem _ hq)) (fun q hq => h2 q (List.mem_cons_of_mem _ hq)) h.2.2 y z
  | [], _ :: _, _, _, h => h.elim
  | _ :: _, [], _, _, h => h.elim
theorem inSt_bd {st : List Pr} {f : List Int} (ok : StLaw st) (h : inSt f st) : BdL 60 f := inSt_bd0 ok.le ok.lo h
theorem list_of {P : Sm → Prop} : ∀ (l : List D), (∀ y ∈ l, ∃ s, y = encS s ∧ P s) → ∃ ss : List Sm, l = encSs ss ∧ ∀ s ∈ ss, P s
  | [], _ => ⟨[], rfl, fun _ z => by cases z⟩
  | y :: l, h => by
    obtain ⟨s, rfl, hs⟩ := h y List.mem_cons_self
    obtain ⟨ss, rfl, h2⟩ := list_of l fun z hz => h z (List.mem_cons_of_mem _ hz)
    exact ⟨s :: ss, rfl, fun z hz => (List.mem_cons.mp hz).elim (fun e => e ▸ hs) (h2 z)⟩
theorem sem_law07 (ds : List D) (O : Own) (R : D → Own → Prop) (h : S_law ds O R) : R_law07 { nx := fun _ O' => Pure O R .non O', rt := Pure O R } (startD N_law07 ds) O := by
  obtain ⟨ns, rfl, hn, h⟩ := h
  refine ⟨ns, rfl, fun st ok => ?_⟩
  walk_at "w"
  refine ⟨ns, 4, rfl, by decide, ?_⟩
  generalize ec : cellAt ns 4 = c
  have c0 : 0 ≤ c := ec ▸ cellAt_lo _ _
  walk_at "w"
  refine ⟨(by decide : (0 : Int) < 6), ?_⟩
  walk_at "w"
  obtain ⟨k, hk, k1, k6⟩ : ∃ k : Nat, 1 + c % 6 = (k : Int) ∧ 1 ≤ k ∧ k ≤ 6 := ⟨(1 + c % 6).toNat, by omega, by omega, by omega⟩
  rw [hk]
  refine ⟨by omega, ?_⟩
  rw [Int.toNat_natCast]
  refine lc_all (fun y => ∃ s, y = encS s ∧ SmW st.length s) trivial (rngN k) [] (fun d hd Q q => ?_) (by rw [rngN_length]; simp; omega) (fun l hl hP => ?_)
  · obtain ⟨j, hj, rfl⟩ := rngN_mem hd
    refine ⟨ns, 5 + (j : Int), rfl, by omega, ?_⟩
    refine ⟨_, st.length, (by show [D.int _, D.int (encSt st).length] = _; rw [encSt_length]), cellAt_lo _ _, ok.pos, ok.few, fun s hs => q _ ⟨s, rfl, hs⟩⟩
  obtain ⟨ss, rfl, hss⟩ := list_of l hP
  rw [rngN_length, encSs_length] at hl
  have sok : ∀ s ∈ ss, SmOk st.length s := fun s hs => ⟨(hss s hs).1, (hss s hs).bd, (hss s hs).bd2⟩
  rw [List.nil_append]
  refine ⟨st, rfl, ok, fun L hL hL1 => ?_⟩
  walk_at "w"
  have fL : ∀ f ∈ L, f.length = st.length ∧ BdL 60 f := fun f hf => ⟨inSt_length ((hL f).mp hf), inSt_bd ok ((hL f).mp hf)⟩
  refine lc_flist (fun f => D.lst (encI f)) (allHold ss) (fun f => D.lst (encI f)) (chk := fun O' => asL O' (.lst (encFs L)) = some (encFs L)) rfl L [] (fun f hf Q q => ?_) ?_ (by simp; omega) ?_
  · exact ⟨ss, f, rfl, by omega, by have := (fL f hf).1; have := ok.few; omega, (fL f hf).2, by rw [(fL f hf).1]; exact sok, q⟩
  · intro f _ _ Q q
    exact q
  generalize eG : L.filter (allHold ss) = G
  have hG : ∀ f, f ∈ G ↔ inSt f st ∧ allHold ss f = true := fun f => by rw [← eG, List.mem_filter, hL]
  have eE : ([] : List D) ++ G.map (fun f => D.lst (encI f)) = encFs G := rfl
  rw [eE]
  have e2 : (encSt st).reverse = encSt st.reverse := by unfold encSt; rw [List.map_reverse]
  have e3 : cutD (encSs ss) none (some 1) = encSs (ss.take 1) := by
    rw [show (some (1 : Int)) = some ((1 : Nat) : Int) from rfl, cut_lo (b := 1) (by rw [encSs_length]; omega)]
    unfold encSs
    rw [List.map_take]
  have eL : (O ++ [some (DO.lst [])]).length = O.length + 1 := by simp
  have eO : O ++ [some (DO.lst [])] ++ [some (DO.lst [])] = O ++ [some (.lst []), some (.lst [])] := by rw [List.append_assoc]; rfl
  have stk : StOk st ss := ⟨ok.pos, by have := ok.few; omega, by omega, sok, fun p hp => (ok.le p hp).1⟩
  have stk2 : StOk st.reverse (ss.take 1) := ⟨ok.rev.pos, by have := ok.rev.few; omega, by rw [List.length_take]; omega, fun s hs => by rw [List.length_reverse]; exact sok s (List.mem_of_mem_take hs), fun p hp => (ok.rev.le p hp).1⟩
  walk_at "w"
  rw [eL, eO, e2, e3]
  refine ⟨rfl, law7_round st ss stk (by have := ok.wid; omega) _ _ _ _ _ none fun d1 _ => ⟨rfl, law7_round st.reverse (ss.take 1) stk2 (by have := ok.rev.wid; omega) _ _ _ _ _ _ fun d2 _ => ⟨rfl, law7_round st ss stk (by have := ok.wid; omega) _ _ _ _ _ _ fun d3 hd => ⟨rfl, ?_⟩⟩⟩⟩
  have pyF : ∀ (L : List (List Int)), Py 3 (.lst (encFs L)) (.list (L.map fun f => .list (f.map PyData.int))) := fun L => .lst (PyAll.map _ _ L fun f _ => .lst (PyAll.ints f))
  rcases hd with ⟨t, it, dt, rfl⟩ | ⟨f, hf, hall, rfl⟩
  · have g0 : G = [] := List.eq_nil_iff_forall_not_mem.mpr fun f hf => by
      obtain ⟨h1, h2⟩ := (hG f).mp hf
      obtain ⟨s, hs, hp⟩ := isT_sound ss f t st it h1
      have := of_decide_eq_true (List.all_eq_true.mp h2 s hs)
      omega
    rw [g0]
    walk_at "w"
    refine ⟨st, ss, t, rfl, by have := ok.few; omega, by omega, sok, Nat.le_trans dt (by decide), ?_⟩
    rw [it]
    walk_at "w"
    exact ⟨st, ss, t, ns, rfl, by have := ok.few; omega, by omega, sok, dt, Pure.up top_take (.same (.bl _)) h⟩
  · have fG : f ∈ G := (hG f).mpr ⟨hf, List.all_eq_true.mpr fun s hs => decide_eq_true (hall s hs)⟩
    have pG : ∀ (O : Own) (k : Nat), 3 ≤ k → pyD O k (.lst (encFs G)) = some (.list (G.map fun f => .list (f.map PyData.int))) := pyF G
    walk_at "w"
    rw [pG _ 40 (by decide)]
    walk_at "w"
    refine ifT (by
      show (!PyData.eqv (.list (G.map fun f => .list (f.map PyData.int))) (.list [])) = true
      cases G with
      | nil => cases fG
      | cons g G => rw [List.map_cons, eqv_lst, eqvAll_l]; rfl) ?_
    walk_at "w"
    have pf : ∀ (O : Own), pyD O 40 (.lst (encI f)) = some (.list (f.map PyData.int)) := fun O => Py.lst (PyAll.ints f) O 40 (by decide)
    rw [pf]
    walk_at "w"
    have pL : ∀ (O : Own), pyL (pyD O 39) (encFs G) = some (G.map fun f => .list (f.map PyData.int)) := fun O => PyAll.map (fun f : List Int => D.lst (encI f)) (fun f => PyData.list (f.map PyData.int)) G (fun f _ => Py.lst (PyAll.ints f)) O 39 (by decide)
    rw [pL]
    show Pure O R (.bl _) _
    have e9 : ((G.map fun f => PyData.list (f.map PyData.int)).any fun z => PyData.eqv z (.list (f.map PyData.int))) = true := by
      rw [List.any_eq_true]
      exact ⟨_, List.mem_map.mpr ⟨f, fG, rfl⟩, pyD_refl 40 _ _ (pf [])⟩
    rw [e9]
    exact Pure.up top_take (.same (.bl _)) h
end DL

namespace DL
open PySem L2
def spLaw (K : PySem.W.Frag) : Sp := fun vs H Q _ => ∃ (a : Addr) (ns : List Int), vs = [.ref a] ∧ SqL K H a (ns.map V.int) ∧ ns.length ≤ 63 ∧ ∀ H', Q (.bl true) H'
theorem hol_nil {K : PySem.W.Frag} {H : Hp} : Hol K H H [] [] := ⟨fun _ _ e => e, List.nodup_nil, fun _ h => (List.not_mem_nil h).elim, rfl, fun _ _ e => by cases e⟩
theorem law_of {P : Program} {w : World} {K : PySem.W.Frag} {mg : Str → Option Value} {base : Heap} {k : Nat} {f : Addr} {fd : FuncData} {x : Str} (G : FnD P w K mg base k f fd [x] S_law) : FnOk P w K mg base CX0 k f fd [x] (spLaw K) :=
  G.imp fun vs H Q E ⟨a, ns, e, hS, hl, q⟩ => ⟨H, [], [.scr ns], [], fun d _ => d = .bl true, by rw [e]; exact .cons (.scr hS) .nil, hol_nil, ⟨ns, rfl, hl, rfl⟩, fun v H' F' m' d O' s h r e => by
    subst e
    cases r
    exact q H'⟩
theorem fnD_never {P : Program} {w : World} {K : PySem.W.Frag} {mg : Str → Option Value} {base : Heap} {x qual : Str} {st : Stmt} {f : Addr} {fd : FuncData} {N ps : List Str} {k : Nat} (F : Fun K x qual st f fd) (Sc : FnScope N ps (defScope st)) : FnD P w K mg base (k + 1) f fd ps fun _ _ _ => False :=
  F.ok Sc (fun vs H Q E h => by obtain ⟨_, _, _, _, _, _, _, q, _⟩ := h; exact q.elim) fun cdv A outer s H vs Q E hr hsp => by obtain ⟨_, _, _, _, _, _, _, q, _⟩ := hsp; exact q.elim
end DL
namespace DL
open PySem L2
def top (i : Nat) : Stmt := PySem.Challenge.pw_loopwords_k07_whole_trees.main.body.getD i (.Pass ⟨0, 0, 0, 0⟩)
abbrev s_l_at : Stmt := top 8
abbrev s_l_stretch : Stmt := top 20
abbrev s_l_changed : Stmt := top 23
abbrev s_with_pair : Stmt := top 3
abbrev s_least : Stmt := top 1
abbrev s_is_tree : Stmt := top 6
abbrev s_l_whole : Stmt := top 9
abbrev s_l_least : Stmt := top 18
abbrev s_l_is_tree : Stmt := top 19
abbrev s_l_trees_right : Stmt := top 24
abbrev s_l_unit : Stmt := top 12
abbrev s_l_word : Stmt := top 13
abbrev s_over : Stmt := top 2
abbrev s_widest : Stmt := top 4
abbrev s_tried : Stmt := top 5
abbrev s_l_all_in : Stmt := top 21
abbrev s_l_value : Stmt := top 10
abbrev s_l_holds : Stmt := top 22
abbrev s_law07 : Stmt := top 25
structure Txt (K : PySem.W.Frag) (mg : Str → Option Value) where
  b_len : mg "len" = none
  b_range : mg "range" = none
  b_zip : mg "zip" = none
  b_min : mg "min" = none
  b_isinstance : mg "isinstance" = none
  b_int : mg "int" = none
  b_bool : mg "bool" = none
  b_tuple : mg "tuple" = none
  b_list : mg "list" = none
  b_max : mg "max" = none
  d_l_at : Def K "_law_at" "_law_at" s_l_at ["_law_script", "_law_k"]
  g_l_at : mg "_law_at" = some (.ref d_l_at.f)
  d_l_stretch : Def K "_law_stretch" "_law_stretch" s_l_stretch ["_law_script"]
  g_l_stretch : mg "_law_stretch" = some (.ref d_l_stretch.f)
  d_l_changed : Def K "_law_changed" "_law_changed" s_l_changed ["_law_tree", "_law_cells"]
  g_l_changed : mg "_law_changed" = some (.ref d_l_changed.f)
  d_with_pair : Def K "with_pair" "with_pair" s_with_pair ["stretch", "box", "pair"]
  g_with_pair : mg "with_pair" = some (.ref d_with_pair.f)
  d_least : Def K "least" "least" s_least ["one", "stretch"]
  g_least : mg "least" = some (.ref d_least.f)
  d_is_tree : Def K "is_tree" "is_tree" s_is_tree ["stretch", "some", "tree"]
  g_is_tree : mg "is_tree" = some (.ref d_is_tree.f)
  d_l_whole : Def K "_law_whole" "_law_whole" s_l_whole ["_law_thing"]
  g_l_whole : mg "_law_whole" = some (.ref d_l_whole.f)
  d_l_least : Def K "_law_least" "_law_least" s_l_least ["_law_one", "_law_stretch_here"]
  g_l_least : mg "_law_least" = some (.ref d_l_least.f)
  d_l_is_tree : Def K "_law_is_tree" "_law_is_tree" s_l_is_tree ["_law_stretch_here", "_law_some", "_law_tree"]
  g_l_is_tree : mg "_law_is_tree" = some (.ref d_l_is_tree.f)
  d_l_trees_right : Def K "_law_trees_right" "_law_trees_right" s_l_trees_right ["_law_stretch_here", "_law_some", "_law_tree", "_law_script"]
  g_l_trees_right : mg "_law_trees_right" = some (.ref d_l_trees_right.f)
  d_l_unit : Def K "_law_unit" "_law_unit" s_l_unit ["_law_many", "_law_box", "_law_number", "_law_more"]
  g_l_unit : mg "_law_unit" = some (.ref d_l_unit.f)
  d_l_word : Def K "_law_word" "_law_word" s_l_word ["_law_cell", "_law_many"]
  g_l_word : mg "_law_word" = some (.ref d_l_word.f)
  d_over : Def K "over" "over" s_over ["stretch", "some"]
  g_over : mg "over" = some (.ref d_over.f)
  d_widest : Def K "widest" "widest" s_widest ["stretch"]
  g_widest : mg "widest" = some (.ref d_widest.f)
  d_tried : Def K "tried" "tried" s_tried ["stretch", "some"]
  g_tried : mg "tried" = some (.ref d_tried.f)
  d_l_all_in : Def K "_law_all_in" "_law_all_in" s_l_all_in ["_law_stretch_here"]
  g_l_all_in : mg "_law_all_in" = some (.ref d_l_all_in.f)
  d_l_value : Def K "_law_value" "_law_value" s_l_value ["_law_one", "_law_filling"]
  g_l_value : mg "_law_value" = some (.ref d_l_value.f)
  d_l_holds : Def K "_law_holds" "_law_holds" s_l_holds ["_law_some", "_law_filling"]
  g_l_holds : mg "_law_holds" = some (.ref d_l_holds.f)
  d_law07 : Def K "law" "law" s_law07 ["_law_script"]
theorem sc_l_at : FnScope N_l_at ["_law_script", "_law_k"] (defScope s_l_at) := ⟨rfl, rfl, rfl, by decide +kernel, rfl, by decide +kernel, by decide +kernel⟩
theorem sc_l_stretch : FnScope N_l_stretch ["_law_script"] (defScope s_l_stretch) := ⟨rfl, rfl, rfl, by decide +kernel, rfl, by decide +kernel, by decide +kernel⟩
theorem sc_l_changed : FnScope N_l_changed ["_law_tree", "_law_cells"] (defScope s_l_changed) := ⟨rfl, rfl, rfl, by decide +kernel, rfl, by decide +kernel, by decide +kernel⟩
theorem sc_with_pair : FnScope N_with_pair ["stretch", "box", "pair"] (defScope s_with_pair) := ⟨rfl, rfl, rfl, by decide +kernel, rfl, by decide +kernel, by decide +kernel⟩
theorem sc_least : FnScope N_least ["one", "stretch"] (defScope s_least) := ⟨rfl, rfl, rfl, by decide +kernel, rfl, by decide +kernel, by decide +kernel⟩
theorem sc_is_tree : FnScope N_is_tree ["stretch", "some", "tree"] (defScope s_is_tree) := ⟨rfl, rfl, rfl, by decide +kernel, rfl, by decide +kernel, by decide +kernel⟩
theorem sc_l_whole : FnScope N_l_whole ["_law_thing"] (defScope s_l_whole) := ⟨rfl, rfl, rfl, by decide +kernel, rfl, by decide +kernel, by decide +kernel⟩
theorem sc_l_least : FnScope N_l_least ["_law_one", "_law_stretch_here"] (defScope s_l_least) := ⟨rfl, rfl, rfl, by decide +kernel, rfl, by decide +kernel, by decide +kernel⟩
theorem sc_l_is_tree : FnScope N_l_is_tree ["_law_stretch_here", "_law_some", "_law_tree"] (defScope s_l_is_tree) := ⟨rfl, rfl, rfl, by decide +kernel, rfl, by decide +kernel, by decide +kernel⟩
theorem sc_l_trees_right : FnScope N_l_trees_right ["_law_stretch_here", "_law_some", "_law_tree", "_law_script"] (defScope s_l_trees_right) := ⟨rfl, rfl, rfl, by decide +kernel, rfl, by decide +kernel, by decide +kernel⟩
theorem sc_l_unit : FnScope N_l_unit ["_law_many", "_law_box", "_law_number", "_law_more"] (defScope s_l_unit) := ⟨rfl, rfl, rfl, by decide +kernel, rfl, by decide +kernel, by decide +kernel⟩
theorem sc_l_word : FnScope N_l_word ["_law_cell", "_law_many"] (defScope s_l_word) := ⟨rfl, rfl, rfl, by decide +kernel, rfl, by decide +kernel, by decide +kernel⟩
theorem sc_over : FnScope N_over ["stretch", "some"] (defScope s_over) := ⟨rfl, rfl, rfl, by decide +kernel, rfl, by decide +kernel, by decide +kernel⟩
theorem sc_widest : FnScope N_widest ["stretch"] (defScope s_widest) := ⟨rfl, rfl, rfl, by decide +kernel, rfl, by decide +kernel, by decide +kernel⟩
theorem sc_tried : FnScope N_tried ["stretch", "some"] (defScope s_tried) := ⟨rfl, rfl, rfl, by decide +kernel, rfl, by decide +kernel, by decide +kernel⟩
theorem sc_l_all_in : FnScope N_l_all_in ["_law_stretch_here"] (defScope s_l_all_in) := ⟨rfl, rfl, rfl, by decide +kernel, rfl, by decide +kernel, by decide +kernel⟩
theorem sc_l_value : FnScope N_l_value ["_law_one", "_law_filling"] (defScope s_l_value) := ⟨rfl, rfl, rfl, by decide +kernel, rfl, by decide +kernel, by decide +kernel⟩
theorem sc_l_holds : FnScope N_l_holds ["_law_some", "_law_filling"] (defScope s_l_holds) := ⟨rfl, rfl, rfl, by decide +kernel, rfl, by decide +kernel, by decide +kernel⟩
theorem sc_law07 : FnScope N_law07 ["_law_script"] (defScope s_law07) := ⟨rfl, rfl, rfl, by decide +kernel, rfl, by decide +kernel, by decide +kernel⟩
section
variable {P : Program} {w : World} {K : PySem.W.Frag} {mg : Str → Option Value} {base : Heap}
theorem ok_l_at (T : Txt K mg) : FnD P w K mg base 1 T.d_l_at.f T.d_l_at.fd ["_law_script", "_law_k"] S_l_at := by
  have nd := sc_l_at.nd
  refine fnD_pure T.d_l_at.F sc_l_at (len_l_at) fun cdv A outer s H E hr => ⟨_, R_l_at,
  (pdss_cons (pds_set (i := 2) nd rfl (Or.inl rfl) pd_int)
  (pdss_cons (pds_if (pdt_cmp op_gt sndo_gt (pd_callB (r := rLenS K) cr_len sndc_len rfl T.b_len PySem.boot_len (pda_cons (pdv 0) pda_nil)) pd_int (nomark _))
    (pdss_one (pds_set (i := 2) nd rfl (Or.inl rfl) (pd_ix (r := rIx K) ix_seq sndo_ix (pdv 0) (pd_op op_mod sndo_mod (pdv 1) (pd_callB (r := rLenS K) cr_len sndc_len rfl T.b_len PySem.boot_len (pda_cons (pdv 0) pda_nil))) (fun _ _ => rfl))))
    pdss_nil)
  (pdss_one (pds_ret (pd_op op_mod sndo_mod (pd_op (r := rMul3 K) op_mul3 sndo_mul (pd_op (r := rAdd4 K) op_add4 sndo_add (pdv 2) (pd_op (r := rMul3 K) op_mul3 sndo_mul pd_int (pdv 1))) pd_int) pd_int))))), sem_l_at⟩
theorem ok_l_stretch (T : Txt K mg) : FnD P w K mg base 2 T.d_l_stretch.f T.d_l_stretch.fd ["_law_script"] S_l_stretch := by
  have nd := sc_l_stretch.nd
  have G_l_at : FnD P w K mg base 1 T.d_l_at.f T.d_l_at.fd ["_law_script", "_law_k"] S_l_at := ok_l_at T
  refine fnD_pure T.d_l_stretch.F sc_l_stretch (len_l_stretch) fun cdv A outer s H E hr => ⟨_, R_l_stretch,
  (pdss_cons (pds_set (i := 1) nd rfl (Or.inl rfl) (pd_op (r := rAdd4 K) op_add4 sndo_add pd_int (pd_op op_mod sndo_mod (pd_callK G_l_at (hr.mono (by omega)) rfl T.g_l_at T.d_l_at.F.kp T.d_l_at.b (pda_cons (pdv 0) (pda_cons pd_int pda_nil))) pd_int)))
  (pdss_cons (pds_set (i := 2) nd rfl (Or.inl rfl) (pd_new (pl_lst pda_nil)))
  (pdss_cons (pds_for PassesOwn.never rfl (pdi_rng1 rfl T.b_range (pdv 1)) (pdg_name (i := 3) nd rfl (Or.inl rfl))
    (pdss_cons (pds_set (i := 4) nd rfl (Or.inl rfl) (pd_callK G_l_at (hr.mono (by omega)) rfl T.g_l_at T.d_l_at.F.kp T.d_l_at.b (pda_cons (pdv 0) (pda_cons (pd_op (r := rAdd4 K) op_add4 sndo_add pd_int (pdv 3)) pda_nil))))
  (pdss_cons (pds_set (i := 5) nd rfl (Or.inl rfl) (pd_op op_sub sndo_sub (pd_op op_mod sndo_mod (pdv 4) pd_int) pd_int))
  (pdss_one (pds_expr (pd_append (pdv 2) (pd_tup (pda_cons (pdv 5) (pda_cons (pd_op (r := rAdd4 K) op_add4 sndo_add (pdv 5) (pd_op op_mod sndo_mod (pd_op op_fdiv sndo_div (pdv 4) pd_int) (pd_ix (r := rIx K) ix_seq sndo_ix (pd_frz (pl_lst (pda_cons pd_int (pda_cons pd_int (pda_cons pd_int pda_nil))))) (pd_op op_sub sndo_sub (pdv 1) pd_int) (fun _ _ => rfl)))) pda_nil)))))))))
  (pdss_one (pds_ret (pdv 2)))))), sem_l_stretch⟩
theorem ok_l_changed (T : Txt K mg) : ∀ n : Nat, FnD P w K mg base (n + 3) T.d_l_changed.f T.d_l_changed.fd ["_law_tree", "_law_cells"] (S_l_changed n)
  | 0 => fnD_never T.d_l_changed.F sc_l_changed
  | n + 1 => by
    have nd := sc_l_changed.nd
    have G_l_changed := ok_l_changed T n
    refine fnD_pure T.d_l_changed.F sc_l_changed (len_l_changed n) fun cdv A outer s H E hr => ⟨_, R_l_changed n,
  (pdss_cons (pds_set (i := 2) nd rfl (Or.inl rfl) (pd_ix (r := rIx K) ix_seq sndo_ix (pdv 1) pd_int (fun _ _ => rfl)))
  (pdss_cons (pds_set (i := 3) nd rfl (Or.inl rfl) (pd_ix (r := rIx K) ix_seq sndo_ix (pd_frz (pl_lst (pda_cons pd_int (pda_cons (pd_neg pd_int) (pda_cons pd_int (pda_cons (pdv 2) pda_nil)))))) (pd_op op_mod sndo_mod (pd_op op_fdiv sndo_div (pdv 2) pd_int) pd_int) (fun _ _ => rfl)))
  (pdss_cons (pds_if (pdt_cmp (r := rEqD K) (op_eqD (Room_u64 hr)) sndo_eq (pd_ix (r := rIx K) ix_seq sndo_ix (pdv 0) pd_int (fun _ _ => rfl)) pd_str (nomark _))
    (pdss_one (pds_ret (pd_ix (r := rIx K) ix_seq sndo_ix (pd_frz (pl_lst (pda_cons (pd_tup (pda_cons pd_str (pda_cons (pd_op (r := rAdd4 K) op_add4 sndo_add (pd_ix (r := rIx K) ix_seq sndo_ix (pdv 0) pd_int (fun _ _ => rfl)) (pdv 3)) pda_nil))) (pda_cons (pd_tup (pda_cons pd_str (pda_cons (pd_neg pd_int) pda_nil))) (pda_cons (pd_tup (pda_cons pd_str (pda_cons (pd_op op_mod sndo_mod (pdv 2) pd_int) (pda_cons (pd_op op_mod sndo_mod (pd_op op_fdiv sndo_div (pdv 2) pd_int) pd_int) (pda_cons (pdv 0) (pda_cons (pdv 0) pda_nil)))))) pda_nil))))) (pd_op op_mod sndo_mod (pd_op op_fdiv sndo_div (pdv 2) pd_int) pd_int) (fun _ _ => rfl))))
    pdss_nil)
  (pdss_cons (pds_set (i := 4) nd rfl (Or.inl rfl) (pd_op op_mod sndo_mod (pdv 2) pd_int))
  (pdss_cons (pds_if (PDW.pt (pdw_and (pdt_cmp (r := rLt2 K) (op_lt2 (Room_u0 hr)) sndo_lt (pdv 4) pd_int (nomark _)) (pdw_and1 (pdt_cmp op_gt sndo_gt (pd_callB (r := rLenS K) cr_len sndc_len rfl T.b_len PySem.boot_len (pda_cons (pdv 1) pda_nil)) pd_int (nomark _)))))
    (pdss_one (pds_ret (pd_op (r := rAdd4 K) op_add4 sndo_add (pd_sliceK (K := K) (pdv 0) pdo_none (pdo_some pd_int)) (pd_tup (pda_cons (pd_callK G_l_changed (hr.mono (by omega)) rfl T.g_l_changed T.d_l_changed.F.kp T.d_l_changed.b (pda_cons (pd_ix (r := rIx K) ix_seq sndo_ix (pdv 0) pd_int (fun _ _ => rfl)) (pda_cons (pd_sliceK (K := K) (pdv 1) (pdo_some pd_int) pdo_none) pda_nil))) (pda_cons (pd_ix (r := rIx K) ix_seq sndo_ix (pdv 0) pd_int (fun _ _ => rfl)) pda_nil))))))
    pdss_nil)
  (pdss_cons (pds_if (PDW.pt (pdw_and (pdt_cmp (r := rLt2 K) (op_lt2 (Room_u0 hr)) sndo_lt (pdv 4) pd_int (nomark _)) (pdw_and1 (pdt_cmp op_gt sndo_gt (pd_callB (r := rLenS K) cr_len sndc_len rfl T.b_len PySem.boot_len (pda_cons (pdv 1) pda_nil)) pd_int (nomark _)))))
    (pdss_one (pds_ret (pd_op (r := rAdd4 K) op_add4 sndo_add (pd_sliceK (K := K) (pdv 0) pdo_none (pdo_some pd_int)) (pd_tup (pda_cons (pd_callK G_l_changed (hr.mono (by omega)) rfl T.g_l_changed T.d_l_changed.F.kp T.d_l_changed.b (pda_cons (pd_ix (r := rIx K) ix_seq sndo_ix (pdv 0) pd_int (fun _ _ => rfl)) (pda_cons (pd_sliceK (K := K) (pdv 1) (pdo_some pd_int) pdo_none) pda_nil))) pda_nil)))))
    pdss_nil)
  (pdss_cons (pds_if (pdt_cmp (r := rEqD K) (op_eqD (Room_u64 hr)) sndo_eq (pdv 4) pd_int (nomark _))
    (pdss_one (pds_ret (pd_op (r := rAdd4 K) op_add4 sndo_add (pd_tup (pda_cons pd_str (pda_cons (pd_op (r := rAdd4 K) op_add4 sndo_add (pd_ix (r := rIx K) ix_seq sndo_ix (pdv 0) pd_int (fun _ _ => rfl)) (pdv 3)) pda_nil))) (pd_sliceK (K := K) (pdv 0) (pdo_some pd_int) pdo_none))))
    pdss_nil)
  (pdss_cons (pds_if (pdt_cmp (r := rEqD K) (op_eqD (Room_u64 hr)) sndo_eq (pdv 4) pd_int (nomark _))
    (pdss_one (pds_ret (pd_op (r := rAdd4 K) op_add4 sndo_add (pd_tup (pda_cons pd_str (pda_cons (pd_ix (r := rIx K) ix_seq sndo_ix (pdv 0) pd_int (fun _ _ => rfl)) (pda_cons (pd_op (r := rAdd4 K) op_add4 sndo_add (pd_ix (r := rIx K) ix_seq sndo_ix (pdv 0) pd_int (fun _ _ => rfl)) (pdv 3)) pda_nil)))) (pd_sliceK (K := K) (pdv 0) (pdo_some pd_int) pdo_none))))
    pdss_nil)
  (pdss_one (pds_ret (pd_ix (r := rIx K) ix_seq sndo_ix (pd_frz (pl_lst (pda_cons (pd_tup (pda_cons pd_str (pda_cons (pd_ix (r := rIx K) ix_seq sndo_ix (pdv 0) pd_int (fun _ _ => rfl)) (pda_cons (pd_ix (r := rIx K) ix_seq sndo_ix (pdv 0) pd_int (fun _ _ => rfl)) (pda_cons (pd_ix (r := rIx K) ix_seq sndo_ix (pdv 0) pd_int (fun _ _ => rfl)) (pda_cons (pd_ix (r := rIx K) ix_seq sndo_ix (pdv 0) pd_int (fun _ _ => rfl)) pda_nil)))))) (pda_cons (pd_ix (r := rIx K) ix_seq sndo_ix (pdv 0) pd_int (fun _ _ => rfl)) pda_nil)))) (pd_op op_mod sndo_mod (pd_op op_fdiv sndo_div (pdv 2) pd_int) pd_int) (fun _ _ => rfl)))))))))))), sem_l_changed n⟩
theorem ok_with_pair (T : Txt K mg) : FnD P w K mg base 1 T.d_with_pair.f T.d_with_pair.fd ["stretch", "box", "pair"] S_with_pair := by
  have nd := sc_with_pair.nd
  refine fnD_pure T.d_with_pair.F sc_with_pair (len_with_pair) fun cdv A outer s H E hr => ⟨_, R_with_pair,
  (pdss_one (pds_ret (pd_op (r := rAdd4 K) op_add4 sndo_add (pd_op (r := rAdd4 K) op_add4 sndo_add (pd_sliceK (K := K) (pdv 0) pdo_none (pdo_some (pdv 1))) (pd_frz (pl_lst (pda_cons (pdv 2) pda_nil)))) (pd_sliceK (K := K) (pdv 0) (pdo_some (pd_op (r := rAdd4 K) op_add4 sndo_add (pdv 1) pd_int)) pdo_none)))), sem_with_pair⟩
theorem ok_least (T : Txt K mg) : FnD P w K mg base 1 T.d_least.f T.d_least.fd ["one", "stretch"] S_least := by
  have nd := sc_least.nd
  refine fnD_pure T.d_least.F sc_least (len_least) fun cdv A outer s H E hr => ⟨_, R_least,
  (pdss_cons (pds_set (i := 2) nd rfl (Or.inl rfl) (pd_ix (r := rIx K) ix_seq sndo_ix (pdv 0) pd_int (fun _ _ => rfl)))
  (pdss_cons (pds_for PassesOwn.never rfl (pdi_zipTK (K := K) rfl T.b_zip (pd_ix (r := rIx K) ix_seq sndo_ix (pdv 0) pd_int (fun _ _ => rfl)) (pdv 1)) (pdg_tupK (K := K) rfl (pdgs_cons (pdg_name (i := 3) nd rfl (Or.inl rfl)) (pdgs_cons (pdg_name (i := 4) nd rfl (Or.inl rfl)) pdgs_nil)))
    (pdss_one (pds_set (i := 2) nd rfl (Or.inl rfl) (pd_op (r := rAdd4 K) op_add4 sndo_add (pdv 2) (pd_callB (cr_min2 rfl) sndc_min2 rfl T.b_min PyProof.Rows.boot_min (pda_cons (pd_op (r := rMul3 K) op_mul3 sndo_mul (pdv 3) (pd_ix (r := rIx K) ix_seq sndo_ix (pdv 4) pd_int (fun _ _ => rfl))) (pda_cons (pd_op (r := rMul3 K) op_mul3 sndo_mul (pdv 3) (pd_ix (r := rIx K) ix_seq sndo_ix (pdv 4) pd_int (fun _ _ => rfl))) pda_nil)))))))
  (pdss_one (pds_ret (pdv 2))))), sem_least⟩
theorem ok_is_tree (T : Txt K mg) : ∀ n : Nat, FnD P w K mg base (n + 3) T.d_is_tree.f T.d_is_tree.fd ["stretch", "some", "tree"] (S_is_tree n)
  | 0 => fnD_never T.d_is_tree.F sc_is_tree
  | n + 1 => by
    have nd := sc_is_tree.nd
    have G_is_tree := ok_is_tree T n
    have G_with_pair : FnD P w K mg base 1 T.d_with_pair.f T.d_with_pair.fd ["stretch", "box", "pair"] S_with_pair := ok_with_pair T
    have G_least : FnD P w K mg base 1 T.d_least.f T.d_least.fd ["one", "stretch"] S_least := ok_least T
    refine fnD_pure T.d_is_tree.F sc_is_tree (len_is_tree n) fun cdv A outer s H E hr => ⟨_, R_is_tree n,
  (pdss_cons (pds_if (pdt_cmp (r := rEqD K) (op_eqD (Room_u64 hr)) sndo_eq (pd_ix (r := rIx K) ix_seq sndo_ix (pdv 2) pd_int (fun _ _ => rfl)) pd_str (nomark _))
    (pdss_one (pds_ret (pd_and (pd_chain (r' := rLt2 K) op_le sndo_le (op_lt2 (Room_u0 hr)) sndo_lt pd_int (pd_ix (r := rIx K) ix_seq sndo_ix (pdv 2) pd_int (fun _ _ => rfl)) (pd_callB (r := rLenS K) cr_len sndc_len rfl T.b_len PySem.boot_len (pda_cons (pdv 1) pda_nil))) (pd_one (pd_cmp op_gt sndo_gt (pd_callK G_least (hr.mono (by omega)) rfl T.g_least T.d_least.F.kp T.d_least.b (pda_cons (pd_ix (r := rIx K) ix_seq sndo_ix (pdv 1) (pd_ix (r := rIx K) ix_seq sndo_ix (pdv 2) pd_int (fun _ _ => rfl)) (fun _ _ => rfl)) (pda_cons (pdv 0) pda_nil))) pd_int (nomark _))))))
    pdss_nil)
  (pdss_cons (pds_if (pdt_not (pdt_chain (r' := rLt2 K) op_le sndo_le (op_lt2 (Room_u0 hr)) sndo_lt pd_int (pd_ix (r := rIx K) ix_seq sndo_ix (pdv 2) pd_int (fun _ _ => rfl)) (pd_callB (r := rLenS K) cr_len sndc_len rfl T.b_len PySem.boot_len (pda_cons (pdv 0) pda_nil))))
    (pdss_one (pds_ret pd_bl))
    pdss_nil)
  (pdss_cons (pds_set (i := 3) nd rfl (Or.inl rfl) (pd_ix (r := rIx K) ix_seq sndo_ix (pdv 0) (pd_ix (r := rIx K) ix_seq sndo_ix (pdv 2) pd_int (fun _ _ => rfl)) (fun _ _ => rfl)))
  (pdss_cons (pds_if (pdt_not (pdt_chain (r' := rLt2 K) op_le sndo_le (op_lt2 (Room_u0 hr)) sndo_lt (pd_ix (r := rIx K) ix_seq sndo_ix (pdv 3) pd_int (fun _ _ => rfl)) (pd_ix (r := rIx K) ix_seq sndo_ix (pdv 2) pd_int (fun _ _ => rfl)) (pd_ix (r := rIx K) ix_seq sndo_ix (pdv 3) pd_int (fun _ _ => rfl))))
    (pdss_one (pds_ret pd_bl))
    pdss_nil)
  (pdss_cons (pds_if (pdt_not (pdt_val (pd_callK G_is_tree (hr.mono (by omega)) rfl T.g_is_tree T.d_is_tree.F.kp T.d_is_tree.b (pda_cons (pd_callK G_with_pair (hr.mono (by omega)) rfl T.g_with_pair T.d_with_pair.F.kp T.d_with_pair.b (pda_cons (pdv 0) (pda_cons (pd_ix (r := rIx K) ix_seq sndo_ix (pdv 2) pd_int (fun _ _ => rfl)) (pda_cons (pd_tup (pda_cons (pd_ix (r := rIx K) ix_seq sndo_ix (pdv 3) pd_int (fun _ _ => rfl)) (pda_cons (pd_ix (r := rIx K) ix_seq sndo_ix (pdv 2) pd_int (fun _ _ => rfl)) pda_nil))) pda_nil)))) (pda_cons (pdv 1) (pda_cons (pd_ix (r := rIx K) ix_seq sndo_ix (pdv 2) pd_int (fun _ _ => rfl)) pda_nil))))))
    (pdss_one (pds_ret pd_bl))
    pdss_nil)
  (pdss_one (pds_ret (pd_callK G_is_tree (hr.mono (by omega)) rfl T.g_is_tree T.d_is_tree.F.kp T.d_is_tree.b (pda_cons (pd_callK G_with_pair (hr.mono (by omega)) rfl T.g_with_pair T.d_with_pair.F.kp T.d_with_pair.b (pda_cons (pdv 0) (pda_cons (pd_ix (r := rIx K) ix_seq sndo_ix (pdv 2) pd_int (fun _ _ => rfl)) (pda_cons (pd_tup (pda_cons (pd_op (r := rAdd4 K) op_add4 sndo_add (pd_ix (r := rIx K) ix_seq sndo_ix (pdv 2) pd_int (fun _ _ => rfl)) pd_int) (pda_cons (pd_ix (r := rIx K) ix_seq sndo_ix (pdv 3) pd_int (fun _ _ => rfl)) pda_nil))) pda_nil)))) (pda_cons (pdv 1) (pda_cons (pd_ix (r := rIx K) ix_seq sndo_ix (pdv 2) pd_int (fun _ _ => rfl)) pda_nil))))))))))), sem_is_tree n⟩
theorem ok_l_whole (T : Txt K mg) : FnD P w K mg base 1 T.d_l_whole.f T.d_l_whole.fd ["_law_thing"] S_l_whole := by
  have nd := sc_l_whole.nd
  refine fnD_pure T.d_l_whole.F sc_l_whole (len_l_whole) fun cdv A outer s H E hr => ⟨_, R_l_whole,
  (pdss_one (pds_ret (pd_and (pd_isiK (K := K) .int "int" kit_int rfl T.b_isinstance PyProof.Rows.boot_isinstance (pdv 0) rfl T.b_int PyProof.Rows.boot_int) (pd_one (pd_not (pd_isiK (K := K) .bl "bool" kit_bl rfl T.b_isinstance PyProof.Rows.boot_isinstance (pdv 0) rfl T.b_bool PyProof.Rows.boot_bool)))))), sem_l_whole⟩
theorem ok_l_least (T : Txt K mg) : FnD P w K mg base 1 T.d_l_least.f T.d_l_least.fd ["_law_one", "_law_stretch_here"] S_l_least := by
  have nd := sc_l_least.nd
  refine fnD_pure T.d_l_least.F sc_l_least (len_l_least) fun cdv A outer s H E hr => ⟨_, R_l_least,
  (pdss_cons (pds_set (i := 2) nd rfl (Or.inl rfl) (pd_ix (r := rIx K) ix_seq sndo_ix (pdv 0) pd_int (fun _ _ => rfl)))
  (pdss_cons (pds_for PassesOwn.never rfl (pdi_rng1 rfl T.b_range (pd_callB (r := rLenS K) cr_len sndc_len rfl T.b_len PySem.boot_len (pda_cons (pdv 1) pda_nil))) (pdg_name (i := 3) nd rfl (Or.inr rfl))
    (pdss_one (pds_set (i := 2) nd rfl (Or.inl rfl) (pd_op (r := rAdd4 K) op_add4 sndo_add (pdv 2) (pd_callB (r := rMin K) (cr_min rfl) sndc_min rfl T.b_min PyProof.Rows.boot_min (pda_cons (pd_frz (pl_lc (own := [("_law_held", 4)]) rfl nd (pdi_tupK (K := K) (pd_ix (r := rIx K) ix_seq sndo_ix (pdv 1) (pdv 3) (fun _ _ => rfl))) (blkOk_by (by rfl)) (fun _ _ _ _ _ => pdg_name (i := 4) nd rfl (by first | exact Or.inl rfl | exact Or.inr rfl)) (own_name (by decide)) (fun _ _ _ _ _ => pdts_nil) (fun _ _ _ _ _ => (pd_op (r := rMul3 K) op_mul3 sndo_mul (pd_ix (r := rIx K) ix_seq sndo_ix (pd_ix (r := rIx K) ix_seq sndo_ix (pdv 0) pd_int (fun _ _ => rfl)) (pdv 3) (fun _ _ => rfl)) (pdv 4))))) pda_nil))))))
  (pdss_one (pds_ret (pdv 2))))), sem_l_least⟩
theorem ok_l_is_tree (T : Txt K mg) : ∀ n : Nat, FnD P w K mg base (n + 3) T.d_l_is_tree.f T.d_l_is_tree.fd ["_law_stretch_here", "_law_some", "_law_tree"] (S_l_is_tree n)
  | 0 => fnD_never T.d_l_is_tree.F sc_l_is_tree
  | n + 1 => by
    have nd := sc_l_is_tree.nd
    have G_l_is_tree := ok_l_is_tree T n
    have G_l_whole : FnD P w K mg base 1 T.d_l_whole.f T.d_l_whole.fd ["_law_thing"] S_l_whole := ok_l_whole T
    have G_l_least : FnD P w K mg base 1 T.d_l_least.f T.d_l_least.fd ["_law_one", "_law_stretch_here"] S_l_least := ok_l_least T
    refine fnD_pure T.d_l_is_tree.F sc_l_is_tree (len_l_is_tree n) fun cdv A outer s H E hr => ⟨_, R_l_is_tree n,
  (pdss_cons (pds_if (PDW.pt (pdw_or (pdt_not (pdt_val (pd_isiK (K := K) .tup "tuple" kit_tup rfl T.b_isinstance PyProof.Rows.boot_isinstance (pdv 2) rfl T.b_tuple PyProof.Rows.boot_tuple))) (pdw_or (pdt_cmp (r := rLt2 K) (op_lt2 (Room_u0 hr)) sndo_lt (pd_callB (r := rLenS K) cr_len sndc_len rfl T.b_len PySem.boot_len (pda_cons (pdv 2) pda_nil)) pd_int (nomark _)) (pdw_or (pdt_not (pdt_val (pd_callK G_l_whole (hr.mono (by omega)) rfl T.g_l_whole T.d_l_whole.F.kp T.d_l_whole.b (pda_cons (pd_ix (r := rIx K) ix_seq sndo_ix (pdv 2) pd_int (fun _ _ => rfl)) pda_nil)))) (pdw_or1 (pdt_cmp (r := rLt2 K) (op_lt2 (Room_u0 hr)) sndo_lt (pd_ix (r := rIx K) ix_seq sndo_ix (pdv 2) pd_int (fun _ _ => rfl)) pd_int (nomark _)))))))
    (pdss_one (pds_ret pd_bl))
    pdss_nil)
  (pdss_cons (pds_if (pdt_cmp (r := rEqD K) (op_eqD (Room_u64 hr)) sndo_eq (pd_ix (r := rIx K) ix_seq sndo_ix (pdv 2) pd_int (fun _ _ => rfl)) pd_str (nomark _))
    (pdss_one (pds_ret (pd_and (pd_cmp (r := rEqD K) (op_eqD (Room_u64 hr)) sndo_eq (pd_callB (r := rLenS K) cr_len sndc_len rfl T.b_len PySem.boot_len (pda_cons (pdv 2) pda_nil)) pd_int (nomark _)) (pd_and (pd_cmp (r := rLt2 K) (op_lt2 (Room_u0 hr)) sndo_lt (pd_ix (r := rIx K) ix_seq sndo_ix (pdv 2) pd_int (fun _ _ => rfl)) (pd_callB (r := rLenS K) cr_len sndc_len rfl T.b_len PySem.boot_len (pda_cons (pdv 1) pda_nil)) (nomark _)) (pd_one (pd_cmp op_gt sndo_gt (pd_callK G_l_least (hr.mono (by omega)) rfl T.g_l_least T.d_l_least.F.kp T.d_l_least.b (pda_cons (pd_ix (r := rIx K) ix_seq sndo_ix (pdv 1) (pd_ix (r := rIx K) ix_seq sndo_ix (pdv 2) pd_int (fun _ _ => rfl)) (fun _ _ => rfl)) (pda_cons (pdv 0) pda_nil))) pd_int (nomark _)))))))
    pdss_nil)
  (pdss_cons (pds_if (PDW.pt (pdw_or (pdt_cmp (r := rNeD K) (op_neD (Room_u64 hr)) sndo_ne (pd_ix (r := rIx K) ix_seq sndo_ix (pdv 2) pd_int (fun _ _ => rfl)) pd_str (nomark _)) (pdw_or (pdt_cmp (r := rNeD K) (op_neD (Room_u64 hr)) sndo_ne (pd_callB (r := rLenS K) cr_len sndc_len rfl T.b_len PySem.boot_len (pda_cons (pdv 2) pda_nil)) pd_int (nomark _)) (pdw_or (pdt_cmp op_ge sndo_ge (pd_ix (r := rIx K) ix_seq sndo_ix (pdv 2) pd_int (fun _ _ => rfl)) (pd_callB (r := rLenS K) cr_len sndc_len rfl T.b_len PySem.boot_len (pda_cons (pdv 0) pda_nil)) (nomark _)) (pdw_or1 (pdt_not (pdt_val (pd_callK G_l_whole (hr.mono (by omega)) rfl T.g_l_whole T.d_l_whole.F.kp T.d_l_whole.b (pda_cons (pd_ix (r := rIx K) ix_seq sndo_ix (pdv 2) pd_int (fun _ _ => rfl)) pda_nil)))))))))
    (pdss_one (pds_ret pd_bl))
    pdss_nil)
  (pdss_cons (pds_set (i := 3) nd rfl (Or.inl rfl) (pd_ix (r := rIx K) ix_seq sndo_ix (pdv 0) (pd_ix (r := rIx K) ix_seq sndo_ix (pdv 2) pd_int (fun _ _ => rfl)) (fun _ _ => rfl)))
  (pdss_cons (pds_if (pdt_not (pdt_chain (r' := rLt2 K) op_le sndo_le (op_lt2 (Room_u0 hr)) sndo_lt (pd_ix (r := rIx K) ix_seq sndo_ix (pdv 3) pd_int (fun _ _ => rfl)) (pd_ix (r := rIx K) ix_seq sndo_ix (pdv 2) pd_int (fun _ _ => rfl)) (pd_ix (r := rIx K) ix_seq sndo_ix (pdv 3) pd_int (fun _ _ => rfl))))
    (pdss_one (pds_ret pd_bl))
    pdss_nil)
  (pdss_cons (pds_set (i := 4) nd rfl (Or.inl rfl) (pd_op (r := rAdd4 K) op_add4 sndo_add (pd_op (r := rAdd4 K) op_add4 sndo_add (pd_sliceK (K := K) (pdv 0) pdo_none (pdo_some (pd_ix (r := rIx K) ix_seq sndo_ix (pdv 2) pd_int (fun _ _ => rfl)))) (pd_frz (pl_lst (pda_cons (pd_tup (pda_cons (pd_ix (r := rIx K) ix_seq sndo_ix (pdv 3) pd_int (fun _ _ => rfl)) (pda_cons (pd_ix (r := rIx K) ix_seq sndo_ix (pdv 2) pd_int (fun _ _ => rfl)) pda_nil))) pda_nil)))) (pd_sliceK (K := K) (pdv 0) (pdo_some (pd_op (r := rAdd4 K) op_add4 sndo_add (pd_ix (r := rIx K) ix_seq sndo_ix (pdv 2) pd_int (fun _ _ => rfl)) pd_int)) pdo_none)))
  (pdss_cons (pds_set (i := 5) nd rfl (Or.inl rfl) (pd_op (r := rAdd4 K) op_add4 sndo_add (pd_op (r := rAdd4 K) op_add4 sndo_add (pd_sliceK (K := K) (pdv 0) pdo_none (pdo_some (pd_ix (r := rIx K) ix_seq sndo_ix (pdv 2) pd_int (fun _ _ => rfl)))) (pd_frz (pl_lst (pda_cons (pd_tup (pda_cons (pd_op (r := rAdd4 K) op_add4 sndo_add (pd_ix (r := rIx K) ix_seq sndo_ix (pdv 2) pd_int (fun _ _ => rfl)) pd_int) (pda_cons (pd_ix (r := rIx K) ix_seq sndo_ix (pdv 3) pd_int (fun _ _ => rfl)) pda_nil))) pda_nil)))) (pd_sliceK (K := K) (pdv 0) (pdo_some (pd_op (r := rAdd4 K) op_add4 sndo_add (pd_ix (r := rIx K) ix_seq sndo_ix (pdv 2) pd_int (fun _ _ => rfl)) pd_int)) pdo_none)))
  (pdss_one (pds_ret (pd_and (pd_callK G_l_is_tree (hr.mono (by omega)) rfl T.g_l_is_tree T.d_l_is_tree.F.kp T.d_l_is_tree.b (pda_cons (pdv 4) (pda_cons (pdv 1) (pda_cons (pd_ix (r := rIx K) ix_seq sndo_ix (pdv 2) pd_int (fun _ _ => rfl)) pda_nil)))) (pd_one (pd_callK G_l_is_tree (hr.mono (by omega)) rfl T.g_l_is_tree T.d_l_is_tree.F.kp T.d_l_is_tree.b (pda_cons (pdv 5) (pda_cons (pdv 1) (pda_cons (pd_ix (r := rIx K) ix_seq sndo_ix (pdv 2) pd_int (fun _ _ => rfl)) pda_nil))))))))))))))), sem_l_is_tree n⟩
theorem ok_l_trees_right (T : Txt K mg) : FnD P w K mg base 16 T.d_l_trees_right.f T.d_l_trees_right.fd ["_law_stretch_here", "_law_some", "_law_tree", "_law_script"] S_l_trees_right := by
  have nd := sc_l_trees_right.nd
  have G_l_changed : FnD P w K mg base 8 T.d_l_changed.f T.d_l_changed.fd ["_law_tree", "_law_cells"] (S_l_changed 5) := ok_l_changed T 5
  have G_is_tree : FnD P w K mg base 15 T.d_is_tree.f T.d_is_tree.fd ["stretch", "some", "tree"] (S_is_tree 12) := ok_is_tree T 12
  have G_l_at : FnD P w K mg base 1 T.d_l_at.f T.d_l_at.fd ["_law_script", "_law_k"] S_l_at := ok_l_at T
  have G_l_is_tree : FnD P w K mg base 15 T.d_l_is_tree.f T.d_l_is_tree.fd ["_law_stretch_here", "_law_some", "_law_tree"] (S_l_is_tree 12) := ok_l_is_tree T 12
  refine fnD_pure T.d_l_trees_right.F sc_l_trees_right (len_l_trees_right) fun cdv A outer s H E hr => ⟨_, R_l_trees_right,
  (pdss_cons (pds_for PassesOwn.never rfl (pdi_listK (K := K) (pd_frz (pl_lst (pda_cons (pdv 2) (pda_cons (pd_callK G_l_changed (hr.mono (by omega)) rfl T.g_l_changed T.d_l_changed.F.kp T.d_l_changed.b (pda_cons (pdv 2) (pda_cons (pd_frz (pl_lc (own := [("_law_k", 7)]) rfl nd (pdi_rng1 rfl T.b_range pd_int) (blkOk_by (by rfl)) (fun _ _ _ _ _ => pdg_name (i := 7) nd rfl (by first | exact Or.inl rfl | exact Or.inr rfl)) (own_name (by decide)) (fun _ _ _ _ _ => pdts_nil) (fun _ _ _ _ _ => (pd_callK G_l_at (hr.mono (by omega)) rfl T.g_l_at T.d_l_at.F.kp T.d_l_at.b (pda_cons (pdv 3) (pda_cons (pd_op (r := rAdd4 K) op_add4 sndo_add pd_int (pdv 7)) pda_nil)))))) pda_nil))) (pda_cons (pdv 2) pda_nil)))))) (pdg_name (i := 4) nd rfl (Or.inl rfl))
    (pdss_cons (pds_set (i := 5) nd rfl (Or.inl rfl) (pd_frz (pl_lst (pda_cons (pd_frz (pl_listK (K := K) rfl T.b_list PyProof.Rows.boot_list (pdv 0))) (pda_cons (pd_frz (pl_listK (K := K) rfl T.b_list PyProof.Rows.boot_list (pdv 1))) pda_nil)))))
  (pdss_cons (pds_set (i := 6) nd rfl (Or.inl rfl) (pd_callK G_is_tree (hr.mono (by omega)) rfl T.g_is_tree T.d_is_tree.F.kp T.d_is_tree.b (pda_cons (pd_ix (r := rIx K) ix_seq sndo_ix (pdv 5) pd_int (fun _ _ => rfl)) (pda_cons (pd_ix (r := rIx K) ix_seq sndo_ix (pdv 5) pd_int (fun _ _ => rfl)) (pda_cons (pdv 4) pda_nil)))))
  (pdss_one (pds_if (PDW.pt (pdw_or (pdt_not (pdt_val (pd_isiK (K := K) .bl "bool" kit_bl rfl T.b_isinstance PyProof.Rows.boot_isinstance (pdv 6) rfl T.b_bool PyProof.Rows.boot_bool))) (pdw_or (pdt_cmp (r := rNeD K) (op_neD (Room_u64 hr)) sndo_ne (pdv 6) (pd_callK G_l_is_tree (hr.mono (by omega)) rfl T.g_l_is_tree T.d_l_is_tree.F.kp T.d_l_is_tree.b (pda_cons (pdv 0) (pda_cons (pdv 1) (pda_cons (pdv 4) pda_nil)))) (nomark _)) (pdw_or1 (pdt_cmp (r := rNeD K) (op_neD (Room_u64 hr)) sndo_ne (pdv 5) (pd_frz (pl_lst (pda_cons (pdv 0) (pda_cons (pdv 1) pda_nil)))) (nomark _))))))
    (pdss_one (pds_ret pd_bl))
    pdss_nil)))))
  (pdss_one (pds_ret pd_bl))), sem_l_trees_right⟩
theorem ok_l_unit (T : Txt K mg) : FnD P w K mg base 1 T.d_l_unit.f T.d_l_unit.fd ["_law_many", "_law_box", "_law_number", "_law_more"] S_l_unit := by
  have nd := sc_l_unit.nd
  refine fnD_pure T.d_l_unit.F sc_l_unit (len_l_unit) fun cdv A outer s H E hr => ⟨_, R_l_unit,
  (pdss_cons (pds_set (i := 4) nd rfl (Or.inl rfl) (pd_new (pl_times (pd_frz (pl_lst (pda_cons pd_int pda_nil))) (pdv 0))))
  (pdss_cons (pds_asg (pdv 2) (pdg_sub (pdv 4) (pdv 1)))
  (pdss_one (pds_ret (pd_tup (pda_cons (pd_callTy (r := rTupOf K) cr_tuple sndc_tuple rfl T.b_tuple PyProof.Rows.boot_tuple (pda_cons (pdv 4) pda_nil)) (pda_cons (pdv 3) pda_nil))))))), sem_l_unit⟩
theorem ok_l_word (T : Txt K mg) : FnD P w K mg base 2 T.d_l_word.f T.d_l_word.fd ["_law_cell", "_law_many"] S_l_word := by
  have nd := sc_l_word.nd
  have G_l_unit : FnD P w K mg base 1 T.d_l_unit.f T.d_l_unit.fd ["_law_many", "_law_box", "_law_number", "_law_more"] S_l_unit := ok_l_unit T
  refine fnD_pure T.d_l_word.F sc_l_word (len_l_word) fun cdv A outer s H E hr => ⟨_, R_l_word,
  (pdss_cons (pds_set (i := 2) nd rfl (Or.inl rfl) (pd_op op_mod sndo_mod (pdv 0) pd_int))
  (pdss_cons (pds_set (i := 3) nd rfl (Or.inl rfl) (pd_op op_mod sndo_mod (pd_op op_fdiv sndo_div (pdv 0) pd_int) (pdv 1)))
  (pdss_cons (pds_set (i := 4) nd rfl (Or.inl rfl) (pd_op op_mod sndo_mod (pd_op op_fdiv sndo_div (pdv 0) pd_int) pd_int))
  (pdss_cons (pds_if (pdt_cmp (r := rLt2 K) (op_lt2 (Room_u0 hr)) sndo_lt (pdv 2) pd_int (nomark _))
    (pdss_one (pds_ret (pd_callK G_l_unit (hr.mono (by omega)) rfl T.g_l_unit T.d_l_unit.F.kp T.d_l_unit.b (pda_cons (pdv 1) (pda_cons (pdv 3) (pda_cons pd_int (pda_cons (pd_neg (pdv 4)) pda_nil)))))))
    pdss_nil)
  (pdss_cons (pds_if (pdt_cmp (r := rLt2 K) (op_lt2 (Room_u0 hr)) sndo_lt (pdv 2) pd_int (nomark _))
    (pdss_one (pds_ret (pd_callK G_l_unit (hr.mono (by omega)) rfl T.g_l_unit T.d_l_unit.F.kp T.d_l_unit.b (pda_cons (pdv 1) (pda_cons (pdv 3) (pda_cons (pd_neg pd_int) (pda_cons (pdv 4) pda_nil)))))))
    pdss_nil)
  (pdss_cons (pds_if (PDW.pt (pdw_and (pdt_cmp (r := rEqD K) (op_eqD (Room_u64 hr)) sndo_eq (pdv 2) pd_int (nomark _)) (pdw_and1 (pdt_cmp op_gt sndo_gt (pdv 1) pd_int (nomark _)))))
    (pdss_cons (pds_set (i := 5) nd rfl (Or.inl rfl) (pd_new (pl_listK (K := K) rfl T.b_list PyProof.Rows.boot_list (pd_ix (r := rIx K) ix_seq sndo_ix (pd_callK G_l_unit (hr.mono (by omega)) rfl T.g_l_unit T.d_l_unit.F.kp T.d_l_unit.b (pda_cons (pdv 1) (pda_cons (pdv 3) (pda_cons pd_int (pda_cons pd_int pda_nil))))) pd_int (fun _ _ => rfl)))))
  (pdss_cons (pds_asg (pd_neg pd_int) (pdg_sub (pdv 5) (pd_op op_mod sndo_mod (pd_op (r := rAdd4 K) op_add4 sndo_add (pdv 3) pd_int) (pdv 1))))
  (pdss_one (pds_ret (pd_tup (pda_cons (pd_callTy (r := rTupOf K) cr_tuple sndc_tuple rfl T.b_tuple PyProof.Rows.boot_tuple (pda_cons (pdv 5) pda_nil)) (pda_cons (pd_op op_sub sndo_sub (pd_op op_mod sndo_mod (pd_op op_fdiv sndo_div (pdv 0) pd_int) pd_int) pd_int) pda_nil)))))))
    pdss_nil)
  (pdss_cons (pds_if (pdt_cmp op_gt sndo_gt (pd_op op_mod sndo_mod (pd_op op_fdiv sndo_div (pdv 0) pd_int) pd_int) pd_int (nomark _))
    (pdss_one (pds_ret (pd_tup (pda_cons (pd_callTy (r := rTupOf K) cr_tuple sndc_tuple rfl T.b_tuple PyProof.Rows.boot_tuple (pda_cons (pd_frz (pl_lc (own := [("_law_k", 6)]) rfl nd (pdi_rng1 rfl T.b_range (pdv 1)) (blkOk_by (by rfl)) (fun _ _ _ _ _ => pdg_name (i := 6) nd rfl (by first | exact Or.inl rfl | exact Or.inr rfl)) (own_name (by decide)) (fun _ _ _ _ _ => pdts_nil) (fun _ _ _ _ _ => (pd_op op_sub sndo_sub (pd_op op_mod sndo_mod (pd_op op_fdiv sndo_div (pdv 0) (pd_ix (r := rIx K) ix_seq sndo_ix (pd_frz (pl_lst (pda_cons pd_int (pda_cons pd_int (pda_cons pd_int pda_nil))))) (pdv 6) (fun _ _ => rfl))) pd_int) pd_int)))) pda_nil)) (pda_cons (pd_op op_sub sndo_sub (pd_op op_mod sndo_mod (pd_op op_fdiv sndo_div (pdv 0) pd_int) pd_int) pd_int) pda_nil)))))
    pdss_nil)
  (pdss_one (pds_ret (pd_tup (pda_cons (pd_callTy (r := rTupOf K) cr_tuple sndc_tuple rfl T.b_tuple PyProof.Rows.boot_tuple (pda_cons (pd_frz (pl_lc (own := [("_law_k", 6)]) rfl nd (pdi_rng1 rfl T.b_range (pdv 1)) (blkOk_by (by rfl)) (fun _ _ _ _ _ => pdg_name (i := 6) nd rfl (by first | exact Or.inl rfl | exact Or.inr rfl)) (own_name (by decide)) (fun _ _ _ _ _ => pdts_nil) (fun _ _ _ _ _ => (pd_op op_sub sndo_sub (pd_op op_mod sndo_mod (pd_op op_fdiv sndo_div (pdv 0) (pd_ix (r := rIx K) ix_seq sndo_ix (pd_frz (pl_lst (pda_cons pd_int (pda_cons pd_int (pda_cons pd_int pda_nil))))) (pdv 6) (fun _ _ => rfl))) pd_int) pd_int)))) pda_nil)) (pda_cons (pd_op op_sub sndo_sub (pd_op op_mod sndo_mod (pd_op op_fdiv sndo_div (pdv 0) pd_int) pd_int) pd_int) pda_nil)))))))))))), sem_l_word⟩
theorem ok_over (T : Txt K mg) : FnD P w K mg base 2 T.d_over.f T.d_over.fd ["stretch", "some"] S_over := by
  have nd := sc_over.nd
  have G_least : FnD P w K mg base 1 T.d_least.f T.d_least.fd ["one", "stretch"] S_least := ok_least T
  refine fnD_pure T.d_over.F sc_over (len_over) fun cdv A outer s H E hr => ⟨_, R_over,
  (pdss_cons (pds_for PassesOwn.never rfl (pdi_rng1 rfl T.b_range (pd_callB (r := rLenS K) cr_len sndc_len rfl T.b_len PySem.boot_len (pda_cons (pdv 1) pda_nil))) (pdg_name (i := 2) nd rfl (Or.inl rfl))
    (pdss_one (pds_if (pdt_cmp op_gt sndo_gt (pd_callK G_least (hr.mono (by omega)) rfl T.g_least T.d_least.F.kp T.d_least.b (pda_cons (pd_ix (r := rIx K) ix_seq sndo_ix (pdv 1) (pdv 2) (fun _ _ => rfl)) (pda_cons (pdv 0) pda_nil))) pd_int (nomark _))
    (pdss_one (pds_ret (pdv 2)))
    pdss_nil)))
  (pdss_one (pds_ret (pd_callB (r := rLenS K) cr_len sndc_len rfl T.b_len PySem.boot_len (pda_cons (pdv 1) pda_nil))))), sem_over⟩
theorem ok_widest (T : Txt K mg) : FnD P w K mg base 1 T.d_widest.f T.d_widest.fd ["stretch"] S_widest := by
  have nd := sc_widest.nd
  refine fnD_pure T.d_widest.F sc_widest (len_widest) fun cdv A outer s H E hr => ⟨_, R_widest,
  (pdss_cons (lc_frz (pds_setLc (i := 1) (own := [("pair", 2)]) rfl nd rfl rfl (sw_true rfl rfl rfl (by decide +kernel)) (pdi_listK (K := K) (pdv 0)) (blkOk_by (by rfl)) (fun _ _ _ _ _ => pdg_name (i := 2) nd rfl (by first | exact Or.inl rfl | exact Or.inr rfl)) (own_name (by decide)) (fun _ _ _ _ _ => pdts_nil) (fun _ _ _ _ _ => (pd_op op_sub sndo_sub (pd_ix (r := rIx K) ix_seq sndo_ix (pdv 2) pd_int (fun _ _ => rfl)) (pd_ix (r := rIx K) ix_seq sndo_ix (pdv 2) pd_int (fun _ _ => rfl))))))
  (pdss_one (pds_ret (pd_index (pdv 1) (pd_callB (r := rMax K) (cr_max rfl) sndc_max rfl T.b_max PyProof.Rows.boot_max (pda_cons (pdv 1) pda_nil)))))), sem_widest⟩
theorem ok_tried (T : Txt K mg) : ∀ n : Nat, FnD P w K mg base (n + 3) T.d_tried.f T.d_tried.fd ["stretch", "some"] (S_tried n)
  | 0 => fnD_never T.d_tried.F sc_tried
  | n + 1 => by
    have nd := sc_tried.nd
    have G_over : FnD P w K mg base 2 T.d_over.f T.d_over.fd ["stretch", "some"] S_over := ok_over T
    have G_widest : FnD P w K mg base 1 T.d_widest.f T.d_widest.fd ["stretch"] S_widest := ok_widest T
    have G_tried := ok_tried T n
    have G_with_pair : FnD P w K mg base 1 T.d_with_pair.f T.d_with_pair.fd ["stretch", "box", "pair"] S_with_pair := ok_with_pair T
    refine fnD_pure T.d_tried.F sc_tried (len_tried n) fun cdv A outer s H E hr => ⟨_, R_tried n,
  (pdss_cons (pds_set (i := 2) nd rfl (Or.inl rfl) (pd_callK G_over (hr.mono (by omega)) rfl T.g_over T.d_over.F.kp T.d_over.b (pda_cons (pdv 0) (pda_cons (pdv 1) pda_nil))))
  (pdss_cons (pds_if (pdt_cmp (r := rLt2 K) (op_lt2 (Room_u0 hr)) sndo_lt (pdv 2) (pd_callB (r := rLenS K) cr_len sndc_len rfl T.b_len PySem.boot_len (pda_cons (pdv 1) pda_nil)) (nomark _))
    (pdss_one (pds_ret (pd_tup (pda_cons (pd_tup (pda_cons pd_str (pda_cons (pdv 2) pda_nil))) (pda_cons pd_non pda_nil)))))
    pdss_nil)
  (pdss_cons (pds_set (i := 3) nd rfl (Or.inl rfl) (pd_callK G_widest (hr.mono (by omega)) rfl T.g_widest T.d_widest.F.kp T.d_widest.b (pda_cons (pdv 0) pda_nil)))
  (pdss_cons (pds_set (i := 4) nd rfl (Or.inl rfl) (pd_ix (r := rIx K) ix_seq sndo_ix (pdv 0) (pdv 3) (fun _ _ => rfl)))
  (pdss_cons (pds_if (pdt_cmp (r := rEqD K) (op_eqD (Room_u64 hr)) sndo_eq (pd_ix (r := rIx K) ix_seq sndo_ix (pdv 4) pd_int (fun _ _ => rfl)) (pd_ix (r := rIx K) ix_seq sndo_ix (pdv 4) pd_int (fun _ _ => rfl)) (nomark _))
    (pdss_one (pds_ret (pd_tup (pda_cons pd_non (pda_cons (pd_frz (pl_lc (own := [("one", 5)]) rfl nd (pdi_listK (K := K) (pdv 0)) (blkOk_by (by rfl)) (fun _ _ _ _ _ => pdg_name (i := 5) nd rfl (by first | exact Or.inl rfl | exact Or.inr rfl)) (own_name (by decide)) (fun _ _ _ _ _ => pdts_nil) (fun _ _ _ _ _ => (pd_ix (r := rIx K) ix_seq sndo_ix (pdv 5) pd_int (fun _ _ => rfl))))) pda_nil)))))
    pdss_nil)
  (pdss_cons (pds_set (i := 6) nd rfl (Or.inl rfl) (pd_op op_fdiv sndo_div (pd_op (r := rAdd4 K) op_add4 sndo_add (pd_ix (r := rIx K) ix_seq sndo_ix (pdv 4) pd_int (fun _ _ => rfl)) (pd_ix (r := rIx K) ix_seq sndo_ix (pdv 4) pd_int (fun _ _ => rfl))) pd_int))
  (pdss_cons (pds_set (i := 7) nd rfl (Or.inl rfl) (pd_callK G_tried (hr.mono (by omega)) rfl T.g_tried T.d_tried.F.kp T.d_tried.b (pda_cons (pd_callK G_with_pair (hr.mono (by omega)) rfl T.g_with_pair T.d_with_pair.F.kp T.d_with_pair.b (pda_cons (pdv 0) (pda_cons (pdv 3) (pda_cons (pd_tup (pda_cons (pd_ix (r := rIx K) ix_seq sndo_ix (pdv 4) pd_int (fun _ _ => rfl)) (pda_cons (pdv 6) pda_nil))) pda_nil)))) (pda_cons (pdv 1) pda_nil))))
  (pdss_cons (pds_if (pdt_cmp op_isN1' sndo_is (pd_ix (r := rIx K) ix_seq sndo_ix (pdv 7) pd_int (fun _ _ => rfl)) pd_non (nomark _))
    (pdss_one (pds_ret (pdv 7)))
    pdss_nil)
  (pdss_cons (pds_set (i := 8) nd rfl (Or.inl rfl) (pd_callK G_tried (hr.mono (by omega)) rfl T.g_tried T.d_tried.F.kp T.d_tried.b (pda_cons (pd_callK G_with_pair (hr.mono (by omega)) rfl T.g_with_pair T.d_with_pair.F.kp T.d_with_pair.b (pda_cons (pdv 0) (pda_cons (pdv 3) (pda_cons (pd_tup (pda_cons (pd_op (r := rAdd4 K) op_add4 sndo_add (pdv 6) pd_int) (pda_cons (pd_ix (r := rIx K) ix_seq sndo_ix (pdv 4) pd_int (fun _ _ => rfl)) pda_nil))) pda_nil)))) (pda_cons (pdv 1) pda_nil))))
  (pdss_cons (pds_if (pdt_cmp op_isN1' sndo_is (pd_ix (r := rIx K) ix_seq sndo_ix (pdv 8) pd_int (fun _ _ => rfl)) pd_non (nomark _))
    (pdss_one (pds_ret (pdv 8)))
    pdss_nil)
  (pdss_one (pds_ret (pd_tup (pda_cons (pd_tup (pda_cons pd_str (pda_cons (pdv 3) (pda_cons (pdv 6) (pda_cons (pd_ix (r := rIx K) ix_seq sndo_ix (pdv 7) pd_int (fun _ _ => rfl)) (pda_cons (pd_ix (r := rIx K) ix_seq sndo_ix (pdv 8) pd_int (fun _ _ => rfl)) pda_nil)))))) (pda_cons pd_non pda_nil))))))))))))))), sem_tried n⟩
theorem ok_l_all_in (T : Txt K mg) : FnD P w K mg base 1 T.d_l_all_in.f T.d_l_all_in.fd ["_law_stretch_here"] S_l_all_in := by
  have nd := sc_l_all_in.nd
  refine fnD_pure T.d_l_all_in.F sc_l_all_in (len_l_all_in) fun cdv A outer s H E hr => ⟨_, R_l_all_in,
  (pdss_cons (pds_set (i := 1) nd rfl (Or.inl rfl) (pd_frz (pl_lst (pda_cons (pd_frz (pl_lst pda_nil)) pda_nil))))
  (pdss_cons (pds_for PassesOwn.never rfl (pdi_listK (K := K) (pdv 0)) (pdg_name (i := 2) nd rfl (Or.inl rfl))
    (pdss_cons (pds_set (i := 3) nd rfl (Or.inl rfl) (pd_frz (pl_lst pda_nil)))
  (pdss_cons (pds_for PassesOwn.never rfl (pdi_listK (K := K) (pdv 1)) (pdg_name (i := 4) nd rfl (Or.inr rfl))
    (pdss_one (pds_set (i := 3) nd rfl (Or.inl rfl) (pd_op (r := rAdd4 K) op_add4 sndo_add (pdv 3) (pd_frz (pl_lc (own := [("_law_held", 5)]) rfl nd (pdi_rng2 rfl T.b_range (pd_ix (r := rIx K) ix_seq sndo_ix (pdv 2) pd_int (fun _ _ => rfl)) (pd_op (r := rAdd4 K) op_add4 sndo_add (pd_ix (r := rIx K) ix_seq sndo_ix (pdv 2) pd_int (fun _ _ => rfl)) pd_int)) (blkOk_by (by rfl)) (fun _ _ _ _ _ => pdg_name (i := 5) nd rfl (by first | exact Or.inl rfl | exact Or.inr rfl)) (own_name (by decide)) (fun _ _ _ _ _ => pdts_nil) (fun _ _ _ _ _ => (pd_op (r := rAdd4 K) op_add4 sndo_add (pdv 4) (pd_frz (pl_lst (pda_cons (pdv 5) pda_nil)))))))))))
  (pdss_one (pds_set (i := 1) nd rfl (Or.inl rfl) (pdv 3))))))
  (pdss_one (pds_ret (pdv 1))))), sem_l_all_in⟩
theorem ok_l_value (T : Txt K mg) : FnD P w K mg base 1 T.d_l_value.f T.d_l_value.fd ["_law_one", "_law_filling"] S_l_value := by
  have nd := sc_l_value.nd
  refine fnD_pure T.d_l_value.F sc_l_value (len_l_value) fun cdv A outer s H E hr => ⟨_, R_l_value,
  (pdss_cons (pds_set (i := 2) nd rfl (Or.inl rfl) (pd_ix (r := rIx K) ix_seq sndo_ix (pdv 0) pd_int (fun _ _ => rfl)))
  (pdss_cons (pds_for PassesOwn.never rfl (pdi_rng1 rfl T.b_range (pd_callB (r := rLenS K) cr_len sndc_len rfl T.b_len PySem.boot_len (pda_cons (pdv 1) pda_nil))) (pdg_name (i := 3) nd rfl (Or.inl rfl))
    (pdss_one (pds_set (i := 2) nd rfl (Or.inl rfl) (pd_op (r := rAdd4 K) op_add4 sndo_add (pdv 2) (pd_op (r := rMul3 K) op_mul3 sndo_mul (pd_ix (r := rIx K) ix_seq sndo_ix (pd_ix (r := rIx K) ix_seq sndo_ix (pdv 0) pd_int (fun _ _ => rfl)) (pdv 3) (fun _ _ => rfl)) (pd_ix (r := rIx K) ix_seq sndo_ix (pdv 1) (pdv 3) (fun _ _ => rfl)))))))
  (pdss_one (pds_ret (pdv 2))))), sem_l_value⟩
theorem ok_l_holds (T : Txt K mg) : FnD P w K mg base 2 T.d_l_holds.f T.d_l_holds.fd ["_law_some", "_law_filling"] S_l_holds := by
  have nd := sc_l_holds.nd
  have G_l_value : FnD P w K mg base 1 T.d_l_value.f T.d_l_value.fd ["_law_one", "_law_filling"] S_l_value := ok_l_value T
  refine fnD_pure T.d_l_holds.F sc_l_holds (len_l_holds) fun cdv A outer s H E hr => ⟨_, R_l_holds,
  (pdss_one (pds_ret (pd_cmp (r := rEqD K) (op_eqD (Room_u64 hr)) sndo_eq (pd_frz (pl_lc (own := [("_law_one", 2)]) rfl nd (pdi_listK (K := K) (pdv 0)) (blkOk_by (by rfl)) (fun _ _ _ _ _ => pdg_name (i := 2) nd rfl (by first | exact Or.inl rfl | exact Or.inr rfl)) (own_name (by decide)) (fun _ _ _ _ _ => (pdts_one (pdt_cmp op_gt sndo_gt (pd_callK G_l_value (hr.mono (by omega)) rfl T.g_l_value T.d_l_value.F.kp T.d_l_value.b (pda_cons (pdv 2) (pda_cons (pdv 1) pda_nil))) pd_int (nomark _)))) (fun _ _ _ _ _ => pd_int))) (pd_frz (pl_lst pda_nil)) (nomark _)))), sem_l_holds⟩
theorem ok_law07 (T : Txt K mg) : FnD P w K mg base 17 T.d_law07.f T.d_law07.fd ["_law_script"] S_law := by
  have nd := sc_law07.nd
  have G_l_stretch : FnD P w K mg base 2 T.d_l_stretch.f T.d_l_stretch.fd ["_law_script"] S_l_stretch := ok_l_stretch T
  have G_l_trees_right : FnD P w K mg base 16 T.d_l_trees_right.f T.d_l_trees_right.fd ["_law_stretch_here", "_law_some", "_law_tree", "_law_script"] S_l_trees_right := ok_l_trees_right T
  have G_l_word : FnD P w K mg base 2 T.d_l_word.f T.d_l_word.fd ["_law_cell", "_law_many"] S_l_word := ok_l_word T
  have G_tried : FnD P w K mg base 14 T.d_tried.f T.d_tried.fd ["stretch", "some"] (S_tried 11) := ok_tried T 11
  have G_l_at : FnD P w K mg base 1 T.d_l_at.f T.d_l_at.fd ["_law_script", "_law_k"] S_l_at := ok_l_at T
  have G_l_all_in : FnD P w K mg base 1 T.d_l_all_in.f T.d_l_all_in.fd ["_law_stretch_here"] S_l_all_in := ok_l_all_in T
  have G_l_holds : FnD P w K mg base 2 T.d_l_holds.f T.d_l_holds.fd ["_law_some", "_law_filling"] S_l_holds := ok_l_holds T
  have G_l_is_tree : FnD P w K mg base 15 T.d_l_is_tree.f T.d_l_is_tree.fd ["_law_stretch_here", "_law_some", "_law_tree"] (S_l_is_tree 12) := ok_l_is_tree T 12
  refine fnD_pure T.d_law07.F sc_law07 (len_law) fun cdv A outer s H E hr => ⟨_, R_law07,
  (pdss_cons (pds_set (i := 1) nd rfl (Or.inl rfl) (pd_callK G_l_stretch (hr.mono (by omega)) rfl T.g_l_stretch T.d_l_stretch.F.kp T.d_l_stretch.b (pda_cons (pdv 0) pda_nil)))
  (pdss_cons (pds_set (i := 2) nd rfl (Or.inr rfl) (pd_callB (r := rLenS K) cr_len sndc_len rfl T.b_len PySem.boot_len (pda_cons (pdv 1) pda_nil)))
  (pdss_cons (pds_set (i := 3) nd rfl (Or.inr rfl) (pd_frz (pl_lc (own := [("_law_k", 4)]) rfl nd (pdi_rng1 rfl T.b_range (pd_op (r := rAdd4 K) op_add4 sndo_add pd_int (pd_op op_mod sndo_mod (pd_callK G_l_at (hr.mono (by omega)) rfl T.g_l_at T.d_l_at.F.kp T.d_l_at.b (pda_cons (pdv 0) (pda_cons pd_int pda_nil))) pd_int))) (blkOk_by (by rfl)) (fun _ _ _ _ _ => pdg_name (i := 4) nd rfl (by first | exact Or.inl rfl | exact Or.inr rfl)) (own_name (by decide)) (fun _ _ _ _ _ => pdts_nil) (fun _ _ _ _ _ => (pd_callK G_l_word (hr.mono (by omega)) rfl T.g_l_word T.d_l_word.F.kp T.d_l_word.b (pda_cons (pd_callK G_l_at (hr.mono (by omega)) rfl T.g_l_at T.d_l_at.F.kp T.d_l_at.b (pda_cons (pdv 0) (pda_cons (pd_op (r := rAdd4 K) op_add4 sndo_add pd_int (pdv 4)) pda_nil))) (pda_cons (pdv 2) pda_nil)))))))
  (pdss_cons (lc_frz (pds_setLc (i := 5) (own := [("_law_filling", 6)]) rfl nd rfl rfl (sw_true rfl rfl rfl (by decide +kernel)) (pdi_listK (K := K) (pd_callK G_l_all_in (hr.mono (by omega)) rfl T.g_l_all_in T.d_l_all_in.F.kp T.d_l_all_in.b (pda_cons (pdv 1) pda_nil))) (blkOk_by (by rfl)) (fun _ _ _ _ _ => pdg_name (i := 6) nd rfl (by first | exact Or.inl rfl | exact Or.inr rfl)) (own_name (by decide)) (fun _ _ _ _ _ => (pdts_one (pdt_val (pd_callK G_l_holds (hr.mono (by omega)) rfl T.g_l_holds T.d_l_holds.F.kp T.d_l_holds.b (pda_cons (pdv 3) (pda_cons (pdv 6) pda_nil)))))) (fun _ _ _ _ _ => (pdv 6))))
  (pdss_cons (pds_set (i := 7) nd rfl (Or.inl rfl) (pd_frz (pl_lst (pda_cons (pd_new (pl_lst pda_nil)) (pda_cons (pd_new (pl_lst pda_nil)) pda_nil)))))
  (pdss_cons (pds_for PassesOwn.never rfl (pdi_listK (K := K) (pd_frz (pl_lst (pda_cons (pd_tup (pda_cons (pdv 1) (pda_cons (pdv 3) pda_nil))) (pda_cons (pd_tup (pda_cons (pd_frz (pl_revK (K := K) (pdv 1))) (pda_cons (pd_sliceK (K := K) (pdv 3) pdo_none (pdo_some pd_int)) pda_nil))) (pda_cons (pd_tup (pda_cons (pdv 1) (pda_cons (pdv 3) pda_nil))) pda_nil)))))) (pdg_name (i := 8) nd rfl (Or.inl rfl))
    (pdss_cons (pds_expr (pd_clear (pd_ix (r := rIx K) ix_seq sndo_ix (pdv 7) pd_int (fun _ _ => rfl))))
  (pdss_cons (pds_expr (pd_extend (pd_ix (r := rIx K) ix_seq sndo_ix (pdv 7) pd_int (fun _ _ => rfl)) (pd_ix (r := rIx K) ix_seq sndo_ix (pdv 8) pd_int (fun _ _ => rfl))))
  (pdss_cons (pds_expr (pd_clear (pd_ix (r := rIx K) ix_seq sndo_ix (pdv 7) pd_int (fun _ _ => rfl))))
  (pdss_cons (pds_expr (pd_extend (pd_ix (r := rIx K) ix_seq sndo_ix (pdv 7) pd_int (fun _ _ => rfl)) (pd_ix (r := rIx K) ix_seq sndo_ix (pdv 8) pd_int (fun _ _ => rfl))))
  (pdss_cons (pds_set (i := 9) nd rfl (Or.inl rfl) (pd_callK G_tried (hr.mono (by omega)) rfl T.g_tried T.d_tried.F.kp T.d_tried.b (pda_cons (pd_ix (r := rIx K) ix_seq sndo_ix (pdv 7) pd_int (fun _ _ => rfl)) (pda_cons (pd_ix (r := rIx K) ix_seq sndo_ix (pdv 7) pd_int (fun _ _ => rfl)) pda_nil))))
  (pdss_one (pds_if (PDW.pt (pdw_or (pdt_cmp (r := rNeD K) (op_neD (Room_u64 hr)) sndo_ne (pdv 7) (pd_frz (pl_lst (pda_cons (pd_ix (r := rIx K) ix_seq sndo_ix (pdv 8) pd_int (fun _ _ => rfl)) (pda_cons (pd_ix (r := rIx K) ix_seq sndo_ix (pdv 8) pd_int (fun _ _ => rfl)) pda_nil)))) (nomark _)) (pdw_or (pdt_not (pdt_val (pd_isiK (K := K) .tup "tuple" kit_tup rfl T.b_isinstance PyProof.Rows.boot_isinstance (pdv 9) rfl T.b_tuple PyProof.Rows.boot_tuple))) (pdw_or1 (pdt_cmp (r := rNeD K) (op_neD (Room_u64 hr)) sndo_ne (pd_callB (r := rLenS K) cr_len sndc_len rfl T.b_len PySem.boot_len (pda_cons (pdv 9) pda_nil)) pd_int (nomark _))))))
    (pdss_one (pds_ret pd_bl))
    pdss_nil))))))))
  (pdss_cons (pds_asg (pdv 9) (pdg_tupK (K := K) rfl (pdgs_cons (pdg_name (i := 10) nd rfl (Or.inl rfl)) (pdgs_cons (pdg_name (i := 6) nd rfl (Or.inl rfl)) pdgs_nil))))
  (pdss_cons (pds_if (pdt_cmp (r := rNeD K) (op_neD (Room_u64 hr)) sndo_ne (pdv 5) (pd_frz (pl_lst pda_nil)) (nomark _))
    (pdss_one (pds_ret (pd_and (pd_cmp op_isN1' sndo_is (pdv 10) pd_non (nomark _)) (pd_and (pd_isiK (K := K) .lst "list" kit_lst rfl T.b_isinstance PyProof.Rows.boot_isinstance (pdv 6) rfl T.b_list PyProof.Rows.boot_list) (pd_one (pd_cmp (r := rIn2 K) (op_in2 (Room_u65 hr)) sndo_in (pdv 6) (pdv 5) (by rfl)))))))
    pdss_nil)
  (pdss_cons (pds_if (PDW.pt (pdw_or (pdt_cmp op_not2 sndo_not (pdv 6) pd_non (nomark _)) (pdw_or1 (pdt_not (pdt_val (pd_callK G_l_is_tree (hr.mono (by omega)) rfl T.g_l_is_tree T.d_l_is_tree.F.kp T.d_l_is_tree.b (pda_cons (pdv 1) (pda_cons (pdv 3) (pda_cons (pdv 10) pda_nil)))))))))
    (pdss_one (pds_ret pd_bl))
    pdss_nil)
  (pdss_one (pds_ret (pd_callK G_l_trees_right (hr.mono (by omega)) rfl T.g_l_trees_right T.d_l_trees_right.F.kp T.d_l_trees_right.b (pda_cons (pdv 1) (pda_cons (pdv 3) (pda_cons (pdv 10) (pda_cons (pdv 0) pda_nil)))))))))))))))), sem_law07⟩
end
theorem all_mk {l : PySem.W.OpenLaw} {w : World} {K : PySem.W.Frag} {h : Heap} {mg : Str → Option Value} {fa : Addr} (X : K.In h) (G : h.Ns mainGlobals mg) (hfa : mg "law" = some (.ref fa))
    {f0 f1 f2 f3 f4 f5 f6 f7 f8 f9 f10 f11 f12 f13 f14 f15 f16 f17 f18 : Addr} {od0 an0 : Option Addr} {sl0 : Array (Option Value)} {oc0 kV0 dc0 pm0 cd0 ct0 : Value} {od1 an1 : Option Addr} {sl1 : Array (Option Value)} {oc1 kV1 dc1 pm1 cd1 ct1 : Value} {od2 an2 : Option Addr} {sl2 : Array (Option Value)} {oc2 kV2 dc2 pm2 cd2 ct2 : Value} {od3 an3 : Option Addr} {sl3 : Array (Option Value)} {oc3 kV3 dc3 pm3 cd3 ct3 : Value} {od4 an4 : Option Addr} {sl4 : Array (Option Value)} {oc4 kV4 dc4 pm4 cd4 ct4 : Value} {od5 an5 : Option Addr} {sl5 : Array (Option Value)} {oc5 kV5 dc5 pm5 cd5 ct5 : Value} {od6 an6 : Option Addr} {sl6 : Array (Option Value)} {oc6 kV6 dc6 pm6 cd6 ct6 : Value} {od7 an7 : Option Addr} {sl7 : Array (Option Value)} {oc7 kV7 dc7 pm7 cd7 ct7 : Value} {od8 an8 : Option Addr} {sl8 : Array (Option Value)} {oc8 kV8 dc8 pm8 cd8 ct8 : Value} {od9 an9 : Option Addr} {sl9 : Array (Option Value)} {oc9 kV9 dc9 pm9 cd9 ct9 : Value} {od10 an10 : Option Addr} {sl10 : Array (Option Value)} {oc10 kV10 dc10 pm10 cd10 ct10 : Value} {od11 an11 : Option Addr} {sl11 : Array (Option Value)} {oc11 kV11 dc11 pm11 cd11 ct11 : Value} {od12 an12 : Option Addr} {sl12 : Array (Option Value)} {oc12 kV12 dc12 pm12 cd12 ct12 : Value} {od13 an13 : Option Addr} {sl13 : Array (Option Value)} {oc13 kV13 dc13 pm13 cd13 ct13 : Value} {od14 an14 : Option Addr} {sl14 : Array (Option Value)} {oc14 kV14 dc14 pm14 cd14 ct14 : Value} {od15 an15 : Option Addr} {sl15 : Array (Option Value)} {oc15 kV15 dc15 pm15 cd15 ct15 : Value} {od16 an16 : Option Addr} {sl16 : Array (Option Value)} {oc16 kV16 dc16 pm16 cd16 ct16 : Value} {od17 an17 : Option Addr} {sl17 : Array (Option Value)} {oc17 kV17 dc17 pm17 cd17 ct17 : Value} {od18 an18 : Option Addr} {sl18 : Array (Option Value)} {oc18 kV18 dc18 pm18 cd18 ct18 : Value}
    (a0 : PySem.W.nsIn K mainGlobals "_law_at" = some (some (.ref f0)))
    (l0 : K.lookup f0 = some ⟨oc0, od0, .func (PySem.W.fnOf "_law_at" "_law_at" (defArgs s_l_at) (defBody s_l_at) (defScope s_l_at) .none kV0 dc0 pm0 an0 cd0 ct0), sl0⟩) (c0 : PySem.W.codeIn K cd0 "_law_at" = true) (k0 : PySem.W.keepIn K (.ref f0) = true)
    (a1 : PySem.W.nsIn K mainGlobals "_law_stretch" = some (some (.ref f1)))
    (l1 : K.lookup f1 = some ⟨oc1, od1, .func (PySem.W.fnOf "_law_stretch" "_law_stretch" (defArgs s_l_stretch) (defBody s_l_stretch) (defScope s_l_stretch) .none kV1 dc1 pm1 an1 cd1 ct1), sl1⟩) (c1 : PySem.W.codeIn K cd1 "_law_stretch" = true) (k1 : PySem.W.keepIn K (.ref f1) = true)
    (a2 : PySem.W.nsIn K mainGlobals "_law_changed" = some (some (.ref f2)))
    (l2 : K.lookup f2 = some ⟨oc2, od2, .func (PySem.W.fnOf "_law_changed" "_law_changed" (defArgs s_l_changed) (defBody s_l_changed) (defScope s_l_changed) .none kV2 dc2 pm2 an2 cd2 ct2), sl2⟩) (c2 : PySem.W.codeIn K cd2 "_law_changed" = true) (k2 : PySem.W.keepIn K (.ref f2) = true)
    (a3 : PySem.W.nsIn K mainGlobals "with_pair" = some (some (.ref f3)))
    (l3 : K.lookup f3 = some ⟨oc3, od3, .func (PySem.W.fnOf "with_pair" "with_pair" (defArgs s_with_pair) (defBody s_with_pair) (defScope s_with_pair) .none kV3 dc3 pm3 an3 cd3 ct3), sl3⟩) (c3 : PySem.W.codeIn K cd3 "with_pair" = true) (k3 : PySem.W.keepIn K (.ref f3) = true)
    (a4 : PySem.W.nsIn K mainGlobals "least" = some (some (.ref f4)))
    (l4 : K.lookup f4 = some ⟨oc4, od4, .func (PySem.W.fnOf "least" "least" (defArgs s_least) (defBody s_least) (defScope s_least) .none kV4 dc4 pm4 an4 cd4 ct4), sl4⟩) (c4 : PySem.W.codeIn K cd4 "least" = true) (k4 : PySem.W.keepIn K (.ref f4) = true)
    (a5 : PySem.W.nsIn K mainGlobals "is_tree" = some (some (.ref f5)))
    (l5 : K.lookup f5 = some ⟨oc5, od5, .func (PySem.W.fnOf "is_tree" "is_tree" (defArgs s_is_tree) (defBody s_is_tree) (defScope s_is_tree) .none kV5 dc5 pm5 an5 cd5 ct5), sl5⟩) (c5 : PySem.W.codeIn K cd5 "is_tree" = true) (k5 : PySem.W.keepIn K (.ref f5) = true)
    (a6 : PySem.W.nsIn K mainGlobals "_law_whole" = some (some (.ref f6)))
    (l6 : K.lookup f6 = some ⟨oc6, od6, .func (PySem.W.fnOf "_law_whole" "_law_whole" (defArgs s_l_whole) (defBody s_l_whole) (defScope s_l_whole) .none kV6 dc6 pm6 an6 cd6 ct6), sl6⟩) (c6 : PySem.W.codeIn K cd6 "_law_whole" = true) (k6 : PySem.W.keepIn K (.ref f6) = true)
    (a7 : PySem.W.nsIn K mainGlobals "_law_least" = some (some (.ref f7)))
    (l7 : K.lookup f7 = some ⟨oc7, od7, .func (PySem.W.fnOf "_law_least" "_law_least" (defArgs s_l_least) (defBody s_l_least) (defScope s_l_least) .none kV7 dc7 pm7 an7 cd7 ct7), sl7⟩) (c7 : PySem.W.codeIn K cd7 "_law_least" = true) (k7 : PySem.W.keepIn K (.ref f7) = true)
    (a8 : PySem.W.nsIn K mainGlobals "_law_is_tree" = some (some (.ref f8)))
    (l8 : K.lookup f8 = some ⟨oc8, od8, .func (PySem.W.fnOf "_law_is_tree" "_law_is_tree" (defArgs s_l_is_tree) (defBody s_l_is_tree) (defScope s_l_is_tree) .none kV8 dc8 pm8 an8 cd8 ct8), sl8⟩) (c8 : PySem.W.codeIn K cd8 "_law_is_tree" = true) (k8 : PySem.W.keepIn K (.ref f8) = true)
    (a9 : PySem.W.nsIn K mainGlobals "_law_trees_right" = some (some (.ref f9)))
    (l9 : K.lookup f9 = some ⟨oc9, od9, .func (PySem.W.fnOf "_law_trees_right" "_law_trees_right" (defArgs s_l_trees_right) (defBody s_l_trees_right) (defScope s_l_trees_right) .none kV9 dc9 pm9 an9 cd9 ct9), sl9⟩) (c9 : PySem.W.codeIn K cd9 "_law_trees_right" = true) (k9 : PySem.W.keepIn K (.ref f9) = true)
    (a10 : PySem.W.nsIn K mainGlobals "_law_unit" = some (some (.ref f10)))
    (l10 : K.lookup f10 = some ⟨oc10, od10, .func (PySem.W.fnOf "_law_unit" "_law_unit" (defArgs s_l_unit) (defBody s_l_unit) (defScope s_l_unit) .none kV10 dc10 pm10 an10 cd10 ct10), sl10⟩) (c10 : PySem.W.codeIn K cd10 "_law_unit" = true) (k10 : PySem.W.keepIn K (.ref f10) = true)
    (a11 : PySem.W.nsIn K mainGlobals "_law_word" = some (some (.ref f11)))
    (l11 : K.lookup f11 = some ⟨oc11, od11, .func (PySem.W.fnOf "_law_word" "_law_word" (defArgs s_l_word) (defBody s_l_word) (defScope s_l_word) .none kV11 dc11 pm11 an11 cd11 ct11), sl11⟩) (c11 : PySem.W.codeIn K cd11 "_law_word" = true) (k11 : PySem.W.keepIn K (.ref f11) = true)
    (a12 : PySem.W.nsIn K mainGlobals "over" = some (some (.ref f12)))
    (l12 : K.lookup f12 = some ⟨oc12, od12, .func (PySem.W.fnOf "over" "over" (defArgs s_over) (defBody s_over) (defScope s_over) .none kV12 dc12 pm12 an12 cd12 ct12), sl12⟩) (c12 : PySem.W.codeIn K cd12 "over" = true) (k12 : PySem.W.keepIn K (.ref f12) = true)
    (a13 : PySem.W.nsIn K mainGlobals "widest" = some (some (.ref f13)))
    (l13 : K.lookup f13 = some ⟨oc13, od13, .func (PySem.W.fnOf "widest" "widest" (defArgs s_widest) (defBody s_widest) (defScope s_widest) .none kV13 dc13 pm13 an13 cd13 ct13), sl13⟩) (c13 : PySem.W.codeIn K cd13 "widest" = true) (k13 : PySem.W.keepIn K (.ref f13) = true)
    (a14 : PySem.W.nsIn K mainGlobals "tried" = some (some (.ref f14)))
    (l14 : K.lookup f14 = some ⟨oc14, od14, .func (PySem.W.fnOf "tried" "tried" (defArgs s_tried) (defBody s_tried) (defScope s_tried) .none kV14 dc14 pm14 an14 cd14 ct14), sl14⟩) (c14 : PySem.W.codeIn K cd14 "tried" = true) (k14 : PySem.W.keepIn K (.ref f14) = true)
    (a15 : PySem.W.nsIn K mainGlobals "_law_all_in" = some (some (.ref f15)))
    (l15 : K.lookup f15 = some ⟨oc15, od15, .func (PySem.W.fnOf "_law_all_in" "_law_all_in" (defArgs s_l_all_in) (defBody s_l_all_in) (defScope s_l_all_in) .none kV15 dc15 pm15 an15 cd15 ct15), sl15⟩) (c15 : PySem.W.codeIn K cd15 "_law_all_in" = true) (k15 : PySem.W.keepIn K (.ref f15) = true)
    (a16 : PySem.W.nsIn K mainGlobals "_law_value" = some (some (.ref f16)))
    (l16 : K.lookup f16 = some ⟨oc16, od16, .func (PySem.W.fnOf "_law_value" "_law_value" (defArgs s_l_value) (defBody s_l_value) (defScope s_l_value) .none kV16 dc16 pm16 an16 cd16 ct16), sl16⟩) (c16 : PySem.W.codeIn K cd16 "_law_value" = true) (k16 : PySem.W.keepIn K (.ref f16) = true)
    (a17 : PySem.W.nsIn K mainGlobals "_law_holds" = some (some (.ref f17)))
    (l17 : K.lookup f17 = some ⟨oc17, od17, .func (PySem.W.fnOf "_law_holds" "_law_holds" (defArgs s_l_holds) (defBody s_l_holds) (defScope s_l_holds) .none kV17 dc17 pm17 an17 cd17 ct17), sl17⟩) (c17 : PySem.W.codeIn K cd17 "_law_holds" = true) (k17 : PySem.W.keepIn K (.ref f17) = true)
    (a18 : PySem.W.nsIn K mainGlobals "law" = some (some (.ref f18)))
    (l18 : K.lookup f18 = some ⟨oc18, od18, .func (PySem.W.fnOf "law" "law" (defArgs s_law07) (defBody s_law07) (defScope s_law07) .none kV18 dc18 pm18 an18 cd18 ct18), sl18⟩) (c18 : PySem.W.codeIn K cd18 "law" = true) (k18 : PySem.W.keepIn K (.ref f18) = true)
    (z_len : PySem.W.nsIn K mainGlobals "len" = some none)
    (z_range : PySem.W.nsIn K mainGlobals "range" = some none)
    (z_zip : PySem.W.nsIn K mainGlobals "zip" = some none)
    (z_min : PySem.W.nsIn K mainGlobals "min" = some none)
    (z_isinstance : PySem.W.nsIn K mainGlobals "isinstance" = some none)
    (z_int : PySem.W.nsIn K mainGlobals "int" = some none)
    (z_bool : PySem.W.nsIn K mainGlobals "bool" = some none)
    (z_tuple : PySem.W.nsIn K mainGlobals "tuple" = some none)
    (z_list : PySem.W.nsIn K mainGlobals "list" = some none)
    (z_max : PySem.W.nsIn K mainGlobals "max" = some none)
    : ∃ fd : FuncData, (∀ (s : Shared) (v : Value), BindsTo s fd ⟨[v], []⟩ [("_law_script", v)]) ∧ ∀ base : Heap, K.In base → base.Ns mainGlobals mg → FnOk l.prog w K mg base CX0 17 fa fd ["_law_script"] (spLaw K) := by
  have e := hfa.symm.trans (PySem.W.mg_of X G a18)
  cases e
  have F0 := fun_mk (st := s_l_at) l0 c0 k0
  have B0 := F0.binds (ps := ["_law_script", "_law_k"]) fun _ _ _ _ _ _ us hl => match us, hl with | [_, _], _ => rfl
  have F1 := fun_mk (st := s_l_stretch) l1 c1 k1
  have B1 := F1.binds (ps := ["_law_script"]) fun _ _ _ _ _ _ us hl => match us, hl with | [_], _ => rfl
  have F2 := fun_mk (st := s_l_changed) l2 c2 k2
  have B2 := F2.binds (ps := ["_law_tree", "_law_cells"]) fun _ _ _ _ _ _ us hl => match us, hl with | [_, _], _ => rfl
  have F3 := fun_mk (st := s_with_pair) l3 c3 k3
  have B3 := F3.binds (ps := ["stretch", "box", "pair"]) fun _ _ _ _ _ _ us hl => match us, hl with | [_, _, _], _ => rfl
  have F4 := fun_mk (st := s_least) l4 c4 k4
  have B4 := F4.binds (ps := ["one", "stretch"]) fun _ _ _ _ _ _ us hl => match us, hl with | [_, _], _ => rfl
  have F5 := fun_mk (st := s_is_tree) l5 c5 k5
  have B5 := F5.binds (ps := ["stretch", "some", "tree"]) fun _ _ _ _ _ _ us hl => match us, hl with | [_, _, _], _ => rfl
  have F6 := fun_mk (st := s_l_whole) l6 c6 k6
  have B6 := F6.binds (ps := ["_law_thing"]) fun _ _ _ _ _ _ us hl => match us, hl with | [_], _ => rfl
  have F7 := fun_mk (st := s_l_least) l7 c7 k7
  have B7 := F7.binds (ps := ["_law_one", "_law_stretch_here"]) fun _ _ _ _ _ _ us hl => match us, hl with | [_, _], _ => rfl
  have F8 := fun_mk (st := s_l_is_tree) l8 c8 k8
  have B8 := F8.binds (ps := ["_law_stretch_here", "_law_some", "_law_tree"]) fun _ _ _ _ _ _ us hl => match us, hl with | [_, _, _], _ => rfl
  have F9 := fun_mk (st := s_l_trees_right) l9 c9 k9
  have B9 := F9.binds (ps := ["_law_stretch_here", "_law_some", "_law_tree", "_law_script"]) fun _ _ _ _ _ _ us hl => match us, hl with | [_, _, _, _], _ => rfl
  have F10 := fun_mk (st := s_l_unit) l10 c10 k10
  have B10 := F10.binds (ps := ["_law_many", "_law_box", "_law_number", "_law_more"]) fun _ _ _ _ _ _ us hl => match us, hl with | [_, _, _, _], _ => rfl
  have F11 := fun_mk (st := s_l_word) l11 c11 k11
  have B11 := F11.binds (ps := ["_law_cell", "_law_many"]) fun _ _ _ _ _ _ us hl => match us, hl with | [_, _], _ => rfl
  have F12 := fun_mk (st := s_over) l12 c12 k12
  have B12 := F12.binds (ps := ["stretch", "some"]) fun _ _ _ _ _ _ us hl => match us, hl with | [_, _], _ => rfl
  have F13 := fun_mk (st := s_widest) l13 c13 k13
  have B13 := F13.binds (ps := ["stretch"]) fun _ _ _ _ _ _ us hl => match us, hl with | [_], _ => rfl
  have F14 := fun_mk (st := s_tried) l14 c14 k14
  have B14 := F14.binds (ps := ["stretch", "some"]) fun _ _ _ _ _ _ us hl => match us, hl with | [_, _], _ => rfl
  have F15 := fun_mk (st := s_l_all_in) l15 c15 k15
  have B15 := F15.binds (ps := ["_law_stretch_here"]) fun _ _ _ _ _ _ us hl => match us, hl with | [_], _ => rfl
  have F16 := fun_mk (st := s_l_value) l16 c16 k16
  have B16 := F16.binds (ps := ["_law_one", "_law_filling"]) fun _ _ _ _ _ _ us hl => match us, hl with | [_, _], _ => rfl
  have F17 := fun_mk (st := s_l_holds) l17 c17 k17
  have B17 := F17.binds (ps := ["_law_some", "_law_filling"]) fun _ _ _ _ _ _ us hl => match us, hl with | [_, _], _ => rfl
  have F18 := fun_mk (st := s_law07) l18 c18 k18
  have B18 := F18.binds (ps := ["_law_script"]) fun _ _ _ _ _ _ us hl => match us, hl with | [_], _ => rfl
  let T : Txt K mg := { b_len := PySem.W.mg_none_of X G z_len, b_range := PySem.W.mg_none_of X G z_range, b_zip := PySem.W.mg_none_of X G z_zip, b_min := PySem.W.mg_none_of X G z_min, b_isinstance := PySem.W.mg_none_of X G z_isinstance, b_int := PySem.W.mg_none_of X G z_int, b_bool := PySem.W.mg_none_of X G z_bool, b_tuple := PySem.W.mg_none_of X G z_tuple, b_list := PySem.W.mg_none_of X G z_list, b_max := PySem.W.mg_none_of X G z_max, d_l_at := ⟨f0, _, F0, B0⟩, g_l_at := PySem.W.mg_of X G a0, d_l_stretch := ⟨f1, _, F1, B1⟩, g_l_stretch := PySem.W.mg_of X G a1, d_l_changed := ⟨f2, _, F2, B2⟩, g_l_changed := PySem.W.mg_of X G a2, d_with_pair := ⟨f3, _, F3, B3⟩, g_with_pair := PySem.W.mg_of X G a3, d_least := ⟨f4, _, F4, B4⟩, g_least := PySem.W.mg_of X G a4, d_is_tree := ⟨f5, _, F5, B5⟩, g_is_tree := PySem.W.mg_of X G a5, d_l_whole := ⟨f6, _, F6, B6⟩, g_l_whole := PySem.W.mg_of X G a6, d_l_least := ⟨f7, _, F7, B7⟩, g_l_least := PySem.W.mg_of X G a7, d_l_is_tree := ⟨f8, _, F8, B8⟩, g_l_is_tree := PySem.W.mg_of X G a8, d_l_trees_right := ⟨f9, _, F9, B9⟩, g_l_trees_right := PySem.W.mg_of X G a9, d_l_unit := ⟨f10, _, F10, B10⟩, g_l_unit := PySem.W.mg_of X G a10, d_l_word := ⟨f11, _, F11, B11⟩, g_l_word := PySem.W.mg_of X G a11, d_over := ⟨f12, _, F12, B12⟩, g_over := PySem.W.mg_of X G a12, d_widest := ⟨f13, _, F13, B13⟩, g_widest := PySem.W.mg_of X G a13, d_tried := ⟨f14, _, F14, B14⟩, g_tried := PySem.W.mg_of X G a14, d_l_all_in := ⟨f15, _, F15, B15⟩, g_l_all_in := PySem.W.mg_of X G a15, d_l_value := ⟨f16, _, F16, B16⟩, g_l_value := PySem.W.mg_of X G a16, d_l_holds := ⟨f17, _, F17, B17⟩, g_l_holds := PySem.W.mg_of X G a17, d_law07 := ⟨fa, _, F18, B18⟩ }
  exact ⟨_, fun s v => .of_eq rfl, fun base _ _ => law_of (ok_law07 T)⟩
theorem walk {l : PySem.W.OpenLaw} {q : Program} {loose : List Str} {XP : (Str → Option Value) → Heap → Prop} {YP : World → Heap → Prop} {d : DefRec} {K : Params → PySem.W.Frag} (hn : l.most = some 63) (hdf : d.params.defaults = [])
    (hY : ∀ (w : World) (h : Heap), YP w h → (K w.params).In h)
    (F : ∀ (w : World) (mg : Str → Option Value) (fa : Addr) (h : Heap), (K w.params).In h → h.Ns mainGlobals mg → mg d.name = some (.ref fa) →
      ∃ fd : FuncData, (∀ (s : Shared) (u : Value), BindsTo s fd ⟨[u], []⟩ [("_law_script", u)]) ∧ ∀ base : Heap, (K w.params).In base → base.Ns mainGlobals mg → FnOk l.prog w (K w.params) mg base CX0 17 fa fd ["_law_script"] (spLaw (K w.params))) :
    PySem.W.WalkO q loose XP YP l.row.toRowW d [] (fun f vs => PySem.call f vs) :=
  L2.walk_of (n := 63) (k := 17) (x := "_law_script") (CX := fun _ => CX0) (sp := fun w => spLaw (K w.params)) hn (by decide) hdf ⟨rfl, by decide, by decide⟩ hY F (fun _ _ a ns hl _ hS => ⟨a, ns, rfl, hS, hl, fun _ => rfl⟩) fun _ _ _ _ _ z => z
end DL
open PySem PySem.W PyProof.Rows
set_option maxRecDepth 100000 in
set_option maxHeartbeats 0 in
theorem PySem.Challenge.cw_loopwords_k07_whole_trees_holds : PySem.Challenge.rw_loopwords_k07_whole_trees.Holds := by
  w_on; o_law; k_head; (case hw => w_witness2)
  k_fill
  refine DL.walk (l := PySem.Challenge.rw_loopwords_k07_whole_trees) rfl rfl (fun w h Y => PySem.W.kIn_of Y) ?F
  case F =>
    intro w mg fa h KX G hmg
    refine' DL.all_mk KX G hmg ?a0 ?l0 ?c0 ?k0 ?a1 ?l1 ?c1 ?k1 ?a2 ?l2 ?c2 ?k2 ?a3 ?l3 ?c3 ?k3 ?a4 ?l4 ?c4 ?k4 ?a5 ?l5 ?c5 ?k5 ?a6 ?l6 ?c6 ?k6 ?a7 ?l7 ?c7 ?k7 ?a8 ?l8 ?c8 ?k8 ?a9 ?l9 ?c9 ?k9 ?a10 ?l10 ?c10 ?k10 ?a11 ?l11 ?c11 ?k11 ?a12 ?l12 ?c12 ?k12 ?a13 ?l13 ?c13 ?k13 ?a14 ?l14 ?c14 ?k14 ?a15 ?l15 ?c15 ?k15 ?a16 ?l16 ?c16 ?k16 ?a17 ?l17 ?c17 ?k17 ?a18 ?l18 ?c18 ?k18 ?z_len ?z_range ?z_zip ?z_min ?z_isinstance ?z_int ?z_bool ?z_tuple ?z_list ?z_max
    (case a0 => k_is); (case l0 => k_is); (case c0 => k_is); (case k0 => k_is); (case a1 => k_is); (case l1 => k_is); (case c1 => k_is); (case k1 => k_is)
    (case a2 => k_is); (case l2 => k_is); (case c2 => k_is); (case k2 => k_is); (case a3 => k_is); (case l3 => k_is); (case c3 => k_is); (case k3 => k_is)
    (case a4 => k_is); (case l4 => k_is); (case c4 => k_is); (case k4 => k_is); (case a5 => k_is); (case l5 => k_is); (case c5 => k_is); (case k5 => k_is)
    (case a6 => k_is); (case l6 => k_is); (case c6 => k_is); (case k6 => k_is); (case a7 => k_is); (case l7 => k_is); (case c7 => k_is); (case k7 => k_is)
    (case a8 => k_is); (case l8 => k_is); (case c8 => k_is); (case k8 => k_is); (case a9 => k_is); (case l9 => k_is); (case c9 => k_is); (case k9 => k_is)
    (case a10 => k_is); (case l10 => k_is); (case c10 => k_is); (case k10 => k_is); (case a11 => k_is); (case l11 => k_is); (case c11 => k_is); (case k11 => k_is)
    (case a12 => k_is); (case l12 => k_is); (case c12 => k_is); (case k12 => k_is); (case a13 => k_is); (case l13 => k_is); (case c13 => k_is); (case k13 => k_is)
    (case a14 => k_is); (case l14 => k_is); (case c14 => k_is); (case k14 => k_is); (case a15 => k_is); (case l15 => k_is); (case c15 => k_is); (case k15 => k_is)
    (case a16 => k_is); (case l16 => k_is); (case c16 => k_is); (case k16 => k_is); (case a17 => k_is); (case l17 => k_is); (case c17 => k_is); (case k17 => k_is)
    (case a18 => k_is); (case l18 => k_is); (case c18 => k_is); (case k18 => k_is); (case z_len => k_is); (case z_range => k_is); (case z_zip => k_is); (case z_min => k_is)
    (case z_isinstance => k_is); (case z_int => k_is); (case z_bool => k_is); (case z_tuple => k_is); (case z_list => k_is); (case z_max => k_is)
#print axioms PySem.Challenge.cw_loopwords_k07_whole_trees_holds
