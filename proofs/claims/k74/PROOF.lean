import PyProof.Rows.All
import HandS.ForMost
import HandS.TupAny
import HandS.IsInst
import HandS.StrMore
import HandS.Evl
import HandS.Replace
import PyProof.ReprRoads
import HandS.TupMul
import HandS.TupLe
import HandS.RaiseMore
import PyProof.Draws
import PyProof.EnumMake
import HandS.FStr
import PyProof.ReprLen
import PySem.Challenge.RW_wishedtongues_k74_doors_as_words
set_option Elab.async false
set_option linter.all false
set_option maxRecDepth 100000
set_option maxHeartbeats 2000000
/-! DD: denotations. Each expression, statement and def of the text is read as a plain Lean function over data. -/
namespace DD
open PySem PySem.Spec PyProof.Rows L2

abbrev D := PyData
abbrev Ex := Evl.Ex
theorem Ex.refl (H : Hp) : Ex H H := fun _ _ h => h
theorem Ex.trans {H H1 H2 : Hp} (a : Ex H H1) (b : Ex H1 H2) : Ex H H2 := fun x o h => b x o (a x o h)
theorem Ex.new {H : Hp} {p : Addr} {o : HO} (h : H p = none) : Ex H (upd H p o) := Evl.Ex.new h

/-- the heap without the lists at T -/
def out (T : List Addr) (H : Hp) : Hp := fun b => if b ∈ T then none else H b
theorem out_ex {T : List Addr} {H : Hp} : Ex (out T H) H := fun a o h => by
  unfold out at h
  split at h
  · cases h
  · exact h
theorem out_not {T : List Addr} {H : Hp} {b : Addr} (h : b ∉ T) : out T H b = H b := by
  unfold out; rw [if_neg h]
theorem out_some {T : List Addr} {H : Hp} {b : Addr} {o : HO} (h : out T H b = some o) : b ∉ T ∧ H b = some o := by
  unfold out at h
  split at h
  · cases h
  · rename_i hn; exact ⟨hn, h⟩
theorem out_nil {H : Hp} : out [] H = H := by
  funext b; unfold out; simp

/-! ### data -/
mutual
inductive Dd (K : PySem.W.Frag) (H : Hp) : V → D → Prop
  | non : Dd K H .non .none
  | bl (b : Bool) : Dd K H (.bl b) (.bool b)
  | int (i : Int) : Dd K H (.int i) (.int i)
  | str (x : Str) : Dd K H (.str x) (.str x)
  | lst {a : Addr} {xs : List V} {ds : List D} : H a = some (.lst xs) → DdAll K H xs ds → Dd K H (.ref a) (.list ds)
  | tup {a : Addr} {xs : List V} {ds : List D} : SqT K H a xs → DdAll K H xs ds → Dd K H (.ref a) (.tuple ds)
inductive DdAll (K : PySem.W.Frag) (H : Hp) : List V → List D → Prop
  | nil : DdAll K H [] []
  | cons {v : V} {vs : List V} {d : D} {ds : List D} : Dd K H v d → DdAll K H vs ds → DdAll K H (v :: vs) (d :: ds)
end
mutual
theorem Dd.mono {K : PySem.W.Frag} {H H' : Hp} (e : Ex H H') : ∀ {v : V} {d : D}, Dd K H v d → Dd K H' v d
  | _, _, .non => .non
  | _, _, .bl b => .bl b
  | _, _, .int i => .int i
  | _, _, .str x => .str x
  | _, _, .lst h hs => .lst (e _ _ h) (DdAll.mono e hs)
  | _, _, .tup h hs => .tup (Evl.ex_t e h) (DdAll.mono e hs)
theorem DdAll.mono {K : PySem.W.Frag} {H H' : Hp} (e : Ex H H') : ∀ {v : List V} {d : List D}, DdAll K H v d → DdAll K H' v d
  | _, _, .nil => .nil
  | _, _, .cons h hs => .cons (Dd.mono e h) (DdAll.mono e hs)
end
mutual
theorem Dd.dp {K : PySem.W.Frag} {H : Hp} : ∀ {v : V} {d : D}, Dd K H v d → Dp K H v d
  | _, _, .non => .non
  | _, _, .bl b => .bl b
  | _, _, .int i => .int i
  | _, _, .str x => .str x
  | _, _, .lst h hs => .lst (SqL.of h) (DdAll.dp hs)
  | _, _, .tup h hs => .tup h (DdAll.dp hs)
theorem DdAll.dp {K : PySem.W.Frag} {H : Hp} : ∀ {v : List V} {d : List D}, DdAll K H v d → DpAll K H v d
  | _, _, .nil => .nil
  | _, _, .cons h hs => .cons (Dd.dp h) (DdAll.dp hs)
end
section
variable {K : PySem.W.Frag} {H : Hp}
theorem DdAll.length : ∀ {xs : List V} {ds : List D}, DdAll K H xs ds → xs.length = ds.length
  | _, _, .nil => rfl
  | _, _, .cons _ h => by rw [List.length_cons, List.length_cons, h.length]
theorem DdAll.append : ∀ {xs ys : List V} {ds es : List D}, DdAll K H xs ds → DdAll K H ys es → DdAll K H (xs ++ ys) (ds ++ es)
  | _, _, _, _, .nil, h => h
  | _, _, _, _, .cons h t, h' => .cons h (t.append h')
theorem DdAll.get : ∀ {xs : List V} {ds : List D} {i : Nat} {d : D}, DdAll K H xs ds → ds[i]? = some d → ∃ v, xs[i]? = some v ∧ Dd K H v d
  | _, _, _, _, .nil, e => by simp at e
  | _, _, 0, _, .cons r _, e => by simp at e; subst e; exact ⟨_, rfl, r⟩
  | _, _, i + 1, _, .cons _ t, e => by
    obtain ⟨v, h1, h2⟩ := DdAll.get (i := i) t (by simpa using e)
    exact ⟨v, by simpa using h1, h2⟩
theorem DdAll.getV : ∀ {xs : List V} {ds : List D} {i : Nat} {v : V}, DdAll K H xs ds → xs[i]? = some v → ∃ d, ds[i]? = some d ∧ Dd K H v d
  | _, _, _, _, .nil, e => by simp at e
  | _, _, 0, _, .cons r _, e => by simp at e; subst e; exact ⟨_, rfl, r⟩
  | _, _, i + 1, _, .cons _ t, e => by
    obtain ⟨v, h1, h2⟩ := DdAll.getV (i := i) t (by simpa using e)
    exact ⟨v, by simpa using h1, h2⟩
theorem DdAll.drop : ∀ {xs : List V} {ds : List D} (n : Nat), DdAll K H xs ds → DdAll K H (xs.drop n) (ds.drop n)
  | _, _, 0, h => h
  | _, _, _ + 1, .nil => .nil
  | _, _, n + 1, .cons _ t => DdAll.drop n t
theorem DdAll.take : ∀ {xs : List V} {ds : List D} (n : Nat), DdAll K H xs ds → DdAll K H (xs.take n) (ds.take n)
  | _, _, 0, _ => .nil
  | _, _, _ + 1, .nil => .nil
  | _, _, n + 1, .cons r t => .cons r (DdAll.take n t)
theorem DdAll.set {v : V} {d : D} (r : Dd K H v d) : ∀ {xs : List V} {ds : List D} (i : Nat), DdAll K H xs ds → DdAll K H (xs.set i v) (ds.set i d)
  | _, _, _, .nil => .nil
  | _, _, 0, .cons _ t => .cons r t
  | _, _, i + 1, .cons q t => .cons q (DdAll.set r i t)
theorem DdAll.reverse {xs : List V} {ds : List D} (h : DdAll K H xs ds) : DdAll K H xs.reverse ds.reverse := by
  induction h using DdAll.rec (motive_1 := fun _ _ _ => True) with
  | nil => exact .nil
  | cons r t _ ih => rw [List.reverse_cons, List.reverse_cons]; exact ih.append (.cons r .nil)
  | _ => trivial
theorem DdAll.rep {xs : List V} {ds : List D} (h : DdAll K H xs ds) : ∀ k : Nat, DdAll K H (List.replicate k xs).flatten (List.replicate k ds).flatten
  | 0 => .nil
  | k + 1 => by
    rw [List.replicate_succ, List.replicate_succ, List.flatten_cons, List.flatten_cons]
    exact h.append (DdAll.rep h k)
theorem DdAll.strs : ∀ {ss : List Str}, DdAll K H (ss.map V.str) (ss.map PyData.str)
  | [] => .nil
  | _ :: _ => .cons (.str _) DdAll.strs
theorem DdAll.ints : ∀ {ss : List Int}, DdAll K H (ss.map V.int) (ss.map PyData.int)
  | [] => .nil
  | _ :: _ => .cons (.int _) DdAll.ints
end

/-! ### immutable data -/
mutual
def im : D → Bool
  | .none => true
  | .bool _ => true
  | .int _ => true
  | .str _ => true
  | .tuple xs => imAll xs
  | .list _ => false
  | .dict _ => false
def imAll : List D → Bool
  | [] => true
  | x :: xs => im x && imAll xs
end
/-- what stands at T are lists -/
def TL (T : List Addr) (H : Hp) : Prop := ∀ b ∈ T, ∃ xs, H b = some (.lst xs)
theorem sqT_out {K : PySem.W.Frag} {T : List Addr} {H : Hp} {a : Addr} {xs : List V} (t : TL T H) (h : SqT K H a xs) : SqT K (out T H) a xs := by
  rcases h with h | h
  · left
    have hn : ∀ o, H a = some o → (∀ ys, o ≠ .lst ys) → a ∉ T := fun o e n hm => by
      obtain ⟨ys, e2⟩ := t a hm
      rw [e] at e2; cases e2; exact n ys rfl
    rcases h with h | ⟨o, h⟩
    · left; rw [out_not (hn _ h (fun _ z => nomatch z))]; exact h
    · right; exact ⟨o, by rw [out_not (hn _ h (fun _ z => nomatch z))]; exact h⟩
  · exact .inr h
mutual
theorem Dd.imOut {K : PySem.W.Frag} {T : List Addr} {H : Hp} (t : TL T H) : ∀ {v : V} {d : D}, Dd K H v d → im d = true → Dd K (out T H) v d
  | _, _, .non, _ => .non
  | _, _, .bl b, _ => .bl b
  | _, _, .int i, _ => .int i
  | _, _, .str x, _ => .str x
  | _, _, .lst _ _, h => by simp [im] at h
  | _, _, .tup h hs, hi => .tup (sqT_out t h) (DdAll.imOut t hs (by simpa [im] using hi))
theorem DdAll.imOut {K : PySem.W.Frag} {T : List Addr} {H : Hp} (t : TL T H) : ∀ {v : List V} {d : List D}, DdAll K H v d → imAll d = true → DdAll K (out T H) v d
  | _, _, .nil, _ => .nil
  | _, _, .cons h hs, hi => by
    rw [imAll, Bool.and_eq_true] at hi
    exact .cons (Dd.imOut t h hi.1) (DdAll.imOut t hs hi.2)
end

/-! ### steps of the heap -/
structure Stp (T : List Addr) (H H' : Hp) : Prop where
  keep : ∀ b o, b ∉ T → H b = some o → H' b = some o
  there : ∀ b, H b ≠ none → H' b ≠ none
theorem Stp.refl (T : List Addr) (H : Hp) : Stp T H H := ⟨fun _ _ _ h => h, fun _ h => h⟩
theorem Stp.trans {T : List Addr} {H H1 H2 : Hp} (a : Stp T H H1) (b : Stp T H1 H2) : Stp T H H2 := ⟨fun c o n h => b.keep c o n (a.keep c o n h), fun c h => b.there c (a.there c h)⟩
theorem Stp.of_ex {T : List Addr} {H H' : Hp} (e : Ex H H') : Stp T H H' := ⟨fun b o _ h => e b o h, fun b h => by
  cases q : H b with
  | none => exact absurd q h
  | some o => rw [e b o q]; exact fun z => nomatch z⟩
theorem Stp.out {T : List Addr} {H H' : Hp} (s : Stp T H H') : Ex (DD.out T H) (DD.out T H') := fun a o h => by
  obtain ⟨n, e⟩ := out_some h
  rw [out_not n]; exact s.keep a o n e
theorem Stp.back {T : List Addr} {H H' : Hp} (s : Stp T H H') {p : Addr} (h : H' p = none) : H p = none := by
  cases q : H p with
  | none => rfl
  | some o => exact absurd h (s.there p (by rw [q]; exact fun z => nomatch z))

/-! ### values of expressions -/
inductive A where
  | dat (d : D)
  | tmp (ds : List D)
  | ref (k : Nat)
inductive S where
  | un
  | dat (d : D)
  | ref (k : Nat)
  | scr (ns : List Int)
abbrev IO := List (List D)
def VOk (K : PySem.W.Frag) (T : List Addr) (H H' : Hp) (v : V) : A → Prop
  | .dat d => Dd K (out T H') v d
  | .tmp ds => ∃ p xs, v = .ref p ∧ H p = none ∧ p ∉ T ∧ H' p = some (.lst xs) ∧ DdAll K (out T H') xs ds
  | .ref k => ∃ p, T[k]? = some p ∧ v = .ref p
inductive VOkAll (K : PySem.W.Frag) (T : List Addr) (H H' : Hp) : List V → List A → Prop
  | nil : VOkAll K T H H' [] []
  | cons {v : V} {a : A} {vs : List V} {as : List A} : VOk K T H H' v a → VOkAll K T H H' vs as → VOkAll K T H H' (v :: vs) (a :: as)
structure IoOk (K : PySem.W.Frag) (T : List Addr) (io : IO) (H : Hp) : Prop where
  nd : T.Nodup
  len : T.length = io.length
  at_ : ∀ (k : Nat) (p : Addr), T[k]? = some p → ∃ ds xs, io[k]? = some ds ∧ H p = some (.lst xs) ∧ DdAll K (out T H) xs ds ∧ imAll ds = true
def SOk (K : PySem.W.Frag) (T : List Addr) (H : Hp) (o : Option (Option V)) : S → Prop
  | .un => True
  | .dat d => ∃ v, o = some (some v) ∧ Dd K (out T H) v d
  | .ref k => ∃ p, T[k]? = some p ∧ o = some (some (.ref p))
  | .scr ns => ∃ a, o = some (some (.ref a)) ∧ SqL K (out T H) a (ns.map V.int)
structure Rel (K : PySem.W.Frag) (T : List Addr) (σ : L2.St) (sl : List S) (io : IO) (H : Hp) : Prop where
  len : σ.length = sl.length
  slot : ∀ (i : Nat) (s : S), sl[i]? = some s → SOk K T H σ[i]? s
  io : IoOk K T io H
def vw (io : IO) : A → Option D
  | .dat d => some d
  | .tmp ds => some (.list ds)
  | .ref k => io[k]?.map .list
/-- a view: the value is d; a list of it may be one of T's own, its items are not -/
def VwOk (K : PySem.W.Frag) (T : List Addr) (H : Hp) (v : V) (d : D) : Prop :=
  Dd K (out T H) v d ∨ ∃ p xs ds, p ∈ T ∧ v = .ref p ∧ d = .list ds ∧ H p = some (.lst xs) ∧ DdAll K (out T H) xs ds

section
variable {K : PySem.W.Frag} {T : List Addr} {H H0 H1 H2 H' : Hp} {v : V} {a : A} {io io' : IO} {σ : L2.St} {sl : List S} {d : D} {ds : List D}
theorem VOk.mono (h : VOk K T H0 H1 v a) (s : Stp T H1 H2) : VOk K T H0 H2 v a := by
  cases a with
  | dat d => exact Dd.mono s.out h
  | tmp ds => obtain ⟨p, xs, e, n, nt, hp, hd⟩ := h; exact ⟨p, xs, e, n, nt, s.keep _ _ nt hp, hd.mono s.out⟩
  | ref k => exact h
theorem VOk.back (s : Stp T H0 H1) (h : VOk K T H1 H2 v a) : VOk K T H0 H2 v a := by
  cases a with
  | dat d => exact h
  | tmp ds => obtain ⟨p, xs, e, n, nt, hp, hd⟩ := h; exact ⟨p, xs, e, s.back n, nt, hp, hd⟩
  | ref k => exact h
theorem VOkAll.mono (s : Stp T H1 H2) : ∀ {vs : List V} {as : List A}, VOkAll K T H0 H1 vs as → VOkAll K T H0 H2 vs as
  | _, _, .nil => .nil
  | _, _, .cons h t => .cons (h.mono s) (t.mono s)
theorem VOkAll.back (s : Stp T H0 H1) : ∀ {vs : List V} {as : List A}, VOkAll K T H1 H2 vs as → VOkAll K T H0 H2 vs as
  | _, _, .nil => .nil
  | _, _, .cons h t => .cons (h.back s) (t.back s)
theorem IoOk.mem (h : IoOk K T io H) {p : Addr} (hp : p ∈ T) : ∃ k : Nat, T[k]? = some p := List.mem_iff_getElem?.mp hp
theorem IoOk.tl (h : IoOk K T io H) : TL T H := fun b hb => by
  obtain ⟨k, e⟩ := h.mem hb
  obtain ⟨_, xs, _, e2, _⟩ := h.at_ k b e
  exact ⟨xs, e2⟩
theorem IoOk.fresh (h : IoOk K T io H) {p : Addr} (n : H p = none) : p ∉ T := fun hm => by
  obtain ⟨xs, e⟩ := h.tl p hm
  rw [n] at e; cases e
theorem IoOk.ex (h : IoOk K T io H) (e : Ex H H') : IoOk K T io H' := ⟨h.nd, h.len, fun k p hp => by
  obtain ⟨ds, xs, e1, e2, e3, e4⟩ := h.at_ k p hp
  exact ⟨ds, xs, e1, e _ _ e2, e3.mono (Stp.of_ex e).out, e4⟩⟩
theorem SOk.step {o : Option (Option V)} {s : S} (h : SOk K T H o s) (st : Stp T H H') : SOk K T H' o s := by
  cases s with
  | un => trivial
  | dat d => obtain ⟨v, e, hd⟩ := h; exact ⟨v, e, hd.mono st.out⟩
  | ref k => exact h
  | scr ns => obtain ⟨a, e, hd⟩ := h; exact ⟨a, e, Evl.ex_l st.out hd⟩
theorem Rel.step (h : Rel K T σ sl io H) (s : Stp T H H') (i : IoOk K T io' H') : Rel K T σ sl io' H' :=
  ⟨h.len, fun j sj e => (h.slot j sj e).step s, i⟩
theorem vw_ok (h : VOk K T H0 H v a) (i : IoOk K T io H) (e : vw io a = some d) : VwOk K T H v d := by
  cases a with
  | dat d' => cases e; exact .inl h
  | tmp ds =>
    cases e
    obtain ⟨p, xs, rfl, n, nt, hp, hd⟩ := h
    exact .inl (.lst (by rw [out_not nt]; exact hp) hd)
  | ref k =>
    obtain ⟨p, ep, rfl⟩ := h
    obtain ⟨ds, xs, e1, e2, e3, _⟩ := i.at_ k p ep
    rw [vw, e1] at e
    cases e
    exact .inr ⟨p, xs, ds, List.mem_iff_getElem?.mpr ⟨k, ep⟩, rfl, rfl, e2, e3⟩
theorem VwOk.dd (h : VwOk K T H v d) : Dd K H v d := by
  rcases h with h | ⟨p, xs, ds, _, rfl, rfl, e, hd⟩
  · exact h.mono out_ex
  · exact .lst e (hd.mono out_ex)
theorem VwOk.int {i : Int} (h : VwOk K T H v (.int i)) : v = .int i := by
  rcases h with h | ⟨_, _, _, _, _, e, _⟩
  · cases h; rfl
  · cases e
theorem VwOk.bl {i : Bool} (h : VwOk K T H v (.bool i)) : v = .bl i := by
  rcases h with h | ⟨_, _, _, _, _, e, _⟩
  · cases h; rfl
  · cases e
theorem VwOk.non (h : VwOk K T H v .none) : v = .non := by
  rcases h with h | ⟨_, _, _, _, _, e, _⟩
  · cases h; rfl
  · cases e
theorem VwOk.str {i : Str} (h : VwOk K T H v (.str i)) : v = .str i := by
  rcases h with h | ⟨_, _, _, _, _, e, _⟩
  · cases h; rfl
  · cases e
theorem VwOk.tup (h : VwOk K T H v (.tuple ds)) : ∃ p xs, v = .ref p ∧ SqT K (out T H) p xs ∧ DdAll K (out T H) xs ds := by
  rcases h with h | ⟨_, _, _, _, _, e, _⟩
  · cases h with
    | tup h1 h2 => exact ⟨_, _, rfl, h1, h2⟩
  · cases e
theorem VwOk.lst (h : VwOk K T H v (.list ds)) : ∃ p xs, v = .ref p ∧ H p = some (.lst xs) ∧ DdAll K (out T H) xs ds := by
  rcases h with h | ⟨p, xs, ds', _, rfl, e, hp, hd⟩
  · cases h with
    | lst h1 h2 => exact ⟨_, _, rfl, out_ex _ _ h1, h2⟩
  · cases e; exact ⟨p, xs, rfl, hp, hd⟩
end

/-! ### the denotations and their readings -/
abbrev DE := List S → IO → Option (A × IO)
abbrev DT := List S → IO → Option (Bool × IO)
abbrev DA := List S → IO → Option (List A × IO)
inductive R where
  | nx (sl : List S) (io : IO)
  | bk (sl : List S) (io : IO)
  | ct (sl : List S) (io : IO)
  | rt (a : A) (io : IO)
abbrev DS := List S → IO → Option R
section
variable (K : PySem.W.Frag)
def tE (f : DE) : TE := fun σ H Q => ∃ T sl io, Rel K T σ sl io H ∧ ∃ a io', f sl io = some (a, io') ∧ ∀ v H', Stp T H H' → IoOk K T io' H' → VOk K T H H' v a → Q v H'
def tT (f : DT) : TT := fun σ H Q => ∃ T sl io, Rel K T σ sl io H ∧ ∃ b io', f sl io = some (b, io') ∧ ∀ H', Stp T H H' → IoOk K T io' H' → Q b H'
def tA (f : DA) : TA := fun σ H Q => ∃ T sl io, Rel K T σ sl io H ∧ ∃ as io', f sl io = some (as, io') ∧ ∀ vs H', Stp T H H' → IoOk K T io' H' → VOkAll K T H H' vs as → Q vs H'
end
/-- the frame of a statement: T may grow by new lists -/
structure Fr (T : List Addr) (H : Hp) (T' : List Addr) (H' : Hp) : Prop where
  pre : ∃ n, T' = T ++ n
  new : ∀ p ∈ T', p ∈ T ∨ H p = none
  keep : ∀ b o, b ∉ T → H b = some o → H' b = some o
  there : ∀ b, H b ≠ none → H' b ≠ none
theorem Fr.refl (T : List Addr) (H : Hp) : Fr T H T H := ⟨⟨[], by simp⟩, fun _ h => .inl h, fun _ _ _ h => h, fun _ h => h⟩
theorem Fr.of_stp {T : List Addr} {H H' : Hp} (s : Stp T H H') : Fr T H T H' := ⟨⟨[], by simp⟩, fun _ h => .inl h, s.keep, s.there⟩
theorem Fr.trans {T T1 T2 : List Addr} {H H1 H2 : Hp} (a : Fr T H T1 H1) (b : Fr T1 H1 T2 H2) : Fr T H T2 H2 := by
  have nb : ∀ p, H1 p = none → H p = none := fun p h => by
    cases q : H p with
    | none => rfl
    | some o => exact absurd h (a.there p (by rw [q]; exact fun z => nomatch z))
  refine ⟨?_, fun p hp => ?_, fun c o n h => ?_, fun c h => b.there c (a.there c h)⟩
  · obtain ⟨n, e⟩ := a.pre
    obtain ⟨m, e2⟩ := b.pre
    exact ⟨n ++ m, by rw [e2, e, List.append_assoc]⟩
  · rcases b.new p hp with h | h
    · exact a.new p h
    · exact .inr (nb p h)
  · refine b.keep c o (fun hc => ?_) (a.keep c o n h)
    rcases a.new c hc with z | z
    · exact n z
    · rw [h] at z; cases z
theorem Fr.stp {T T' : List Addr} {H H' : Hp} (a : Fr T H T' H') : Stp T H H' := ⟨a.keep, a.there⟩
section
variable (K : PySem.W.Frag)
/-- what a statement's end wants, by its denotation's result -/
def RtOk (T : List Addr) (H : Hp) (D : Ends) : R → Prop
  | .nx sl io => ∀ T' σ H', Rel K T' σ sl io H' → Fr T H T' H' → D.nx σ H'
  | .bk sl io => ∀ T' σ H', Rel K T' σ sl io H' → Fr T H T' H' → D.bk σ H'
  | .ct sl io => ∀ T' σ H', Rel K T' σ sl io H' → Fr T H T' H' → D.ct σ H'
  | .rt a io => ∀ T' v H', IoOk K T' io H' → Fr T H T' H' → VOk K T' H H' v a → D.rt v H'
def tS (f : DS) : TS := fun D σ H => ∃ T sl io, Rel K T σ sl io H ∧ ∃ r, f sl io = some r ∧ RtOk K T H D r
end
theorem RtOk.fr {K : PySem.W.Frag} {T T1 : List Addr} {H H1 : Hp} {D : Ends} {r : R} (h : RtOk K T H D r) (f : Fr T H T1 H1) : RtOk K T1 H1 D r := by
  have nb : ∀ p, H1 p = none → H p = none := fun p h => by
    cases q : H p with
    | none => rfl
    | some o => exact absurd h (f.there p (by rw [q]; exact fun z => nomatch z))
  cases r with
  | nx sl io => exact fun T' σ H' hr hf => h T' σ H' hr (f.trans hf)
  | bk sl io => exact fun T' σ H' hr hf => h T' σ H' hr (f.trans hf)
  | ct sl io => exact fun T' σ H' hr hf => h T' σ H' hr (f.trans hf)
  | rt a io =>
    refine fun T' v H' hi hf hv => h T' v H' hi (f.trans hf) ?_
    cases a with
    | dat d => exact hv
    | tmp ds => obtain ⟨p, xs, e, n, r⟩ := hv; exact ⟨p, xs, e, nb p n, r⟩
    | ref k => exact hv

/-! ### weakening -/
theorem PE.imp {X : Cx} {e : Expr} {t t' : TE} (h : PE X e t) (hi : ∀ σ H Q, t' σ H Q → t σ H Q) : PE X e t' := ⟨fun pins s σ H Q I q => h.run pins s σ H Q I (hi σ H Q q)⟩
theorem PT.imp {X : Cx} {e : Expr} {t t' : TT} (h : PT X e t) (hi : ∀ σ H Q, t' σ H Q → t σ H Q) : PT X e t' := ⟨fun pins s σ H Q I q => h.run pins s σ H Q I (hi σ H Q q)⟩
theorem PA.imp {X : Cx} {e : List Expr} {t t' : TA} (h : PA X e t) (hi : ∀ σ H Q, t' σ H Q → t σ H Q) : PA X e t' := ⟨fun pos pins s σ H Q I q => h.run pos pins s σ H Q I (hi σ H Q q)⟩
theorem PS.imp {X : Cx} {e : Stmt} {t t' : TS} (h : PS X e t) (hi : ∀ D σ H, t' D σ H → t D σ H) : PS X e t' := ⟨fun pins s σ H D I q => h.run pins s σ H D I (hi D σ H q)⟩
theorem PSs.imp {X : Cx} {e : List Stmt} {t t' : TS} (h : PSs X e t) (hi : ∀ D σ H, t' D σ H → t D σ H) : PSs X e t' := ⟨fun pins s σ H D I q => h.run pins s σ H D I (hi D σ H q)⟩

/-! ### two in a row -/
section
variable {K : PySem.W.Frag} {T : List Addr} {σ : L2.St} {sl : List S} {io io1 io2 : IO} {H : Hp}
theorem one {f : DE} {a : A} {R : V → Hp → Prop} (hR : Rel K T σ sl io H) (hf : f sl io = some (a, io1))
    (hq : ∀ x H1, Stp T H H1 → IoOk K T io1 H1 → VOk K T H H1 x a → R x H1) : tE K f σ H R :=
  ⟨T, sl, io, hR, a, io1, hf, fun x H1 s1 i1 v1 => hq x H1 s1 i1 v1⟩
theorem two {f g : DE} {a b : A} {R : V → V → Hp → Prop} (hR : Rel K T σ sl io H) (hf : f sl io = some (a, io1)) (hg : g sl io1 = some (b, io2))
    (hq : ∀ x y H2, Stp T H H2 → IoOk K T io2 H2 → VOk K T H H2 x a → VOk K T H H2 y b → R x y H2) : tE K f σ H (fun x H1 => tE K g σ H1 (fun y H2 => R x y H2)) :=
  ⟨T, sl, io, hR, a, io1, hf, fun x H1 s1 i1 v1 => ⟨T, sl, io1, hR.step s1 i1, b, io2, hg, fun y H2 s2 i2 v2 => hq x y H2 (s1.trans s2) i2 (v1.mono s2) (v2.back s1)⟩⟩
end
end DD
set_option Elab.async false
set_option linter.all false
set_option maxRecDepth 100000
set_option maxHeartbeats 2000000
namespace DD
open PySem PySem.Spec PyProof.Rows L2

def LIM : Nat := 100000
theorem lim_le {n : Nat} (h : n ≤ LIM) : n ≤ sizeLine := Nat.le_trans h (by decide)

section
variable {X : Cx} {f g h : DE}
/-! ### names, constants -/
def dVar (i : Nat) : DE := fun sl io => match sl[i]? with
  | some (.dat d) => some (.dat d, io)
  | some (.ref k) => some (.ref k, io)
  | _ => none
theorem pd_var {e : Expr} {i : Nat} (he : PE X e (tVar i)) : PE X e (tE X.K (dVar i)) := PE.imp he fun σ H Q hh => by
  obtain ⟨T, sl, io, hR, a, io', e, q⟩ := hh
  unfold dVar at e
  split at e
  · rename_i d hs
    cases e
    obtain ⟨v, ev, hd⟩ := hR.slot i _ hs
    exact ⟨v, ev, q v H (Stp.refl _ _) hR.io hd⟩
  · rename_i k hs
    cases e
    obtain ⟨p, ep, ev⟩ := hR.slot i _ hs
    exact ⟨_, ev, q _ H (Stp.refl _ _) hR.io ⟨p, ep, rfl⟩⟩
  · cases e
def dC (d : D) : DE := fun _ io => some (.dat d, io)
theorem pd_c {e : Expr} {v : V} {d : D} (he : PE X e (tC v)) (hd : ∀ H, Dd X.K H v d) : PE X e (tE X.K (dC d)) := PE.imp he fun σ H Q hh => by
  obtain ⟨T, sl, io, hR, a, io', e, q⟩ := hh
  cases e
  exact q v H (Stp.refl _ _) hR.io (hd _)
theorem pd_int {i j pos} : PE X (.Constant (.int i) j pos) (tE X.K (dC (.int i))) := pd_c pe_int fun _ => .int _
theorem pd_str {i j pos} : PE X (.Constant (.str i) j pos) (tE X.K (dC (.str i))) := pd_c pe_str fun _ => .str _
theorem pd_bl {i j pos} : PE X (.Constant (.bool i) j pos) (tE X.K (dC (.bool i))) := pd_c pe_bl fun _ => .bl _
theorem pd_non {j pos} : PE X (.Constant .none j pos) (tE X.K (dC .none)) := pd_c pe_non fun _ => .non

/-! ### operators -/
def rO (K : PySem.W.Frag) (o : D → D → Option A) : R2 := fun x y H Q => ∃ T d e r, VwOk K T H x d ∧ VwOk K T H y e ∧ (∀ p, H p = none → p ∉ T) ∧ o d e = some r ∧ ∀ v H', Ex H H' → VOk K T H H' v r → Q v H'
def dOp (o : D → D → Option A) (f g : DE) : DE := fun sl io => (f sl io).bind fun p => (g sl p.2).bind fun q => (vw q.2 p.1).bind fun x => (vw q.2 q.1).bind fun y => (o x y).map fun r => (r, q.2)
theorem dOp_some {o : D → D → Option A} {sl : List S} {io io' : IO} {r : A} (e : dOp o f g sl io = some (r, io')) :
    ∃ a io1 b x y, f sl io = some (a, io1) ∧ g sl io1 = some (b, io') ∧ vw io' a = some x ∧ vw io' b = some y ∧ o x y = some r := by
  unfold dOp at e
  simp only [Option.bind_eq_some_iff, Option.map_eq_some_iff, Prod.exists, Prod.mk.injEq] at e
  obtain ⟨a, io1, e1, b, io2, e2, x, e3, y, e4, r', e5, rfl, rfl⟩ := e
  exact ⟨a, io1, b, x, y, e1, e2, e3, e4, e5⟩
theorem op_run {o : D → D → Option A} {σ : L2.St} {H : Hp} {Q : VK} (hh : tE X.K (dOp o f g) σ H Q) : tOp (rO X.K o) (tE X.K f) (tE X.K g) σ H Q := by
  obtain ⟨T, sl, io, hR, r, io', e, q⟩ := hh
  obtain ⟨a, io1, b, x, y, e1, e2, e3, e4, e5⟩ := dOp_some e
  refine two hR e1 e2 fun v u H2 s2 i2 va vb => ?_
  exact ⟨T, x, y, r, vw_ok va i2 e3, vw_ok vb i2 e4, fun p n => i2.fresh n, e5, fun z H' ex vz => q z H' (s2.trans (Stp.of_ex ex)) (i2.ex ex) (vz.back s2)⟩
theorem pd_op {a b : Expr} {pos : Pos} {op : Operator} {o : D → D → Option A} (ho : OpR X (binaryOp op) (rO X.K o)) (ha : PE X a (tE X.K f)) (hb : PE X b (tE X.K g)) : PE X (.BinOp a op b pos) (tE X.K (dOp o f g)) :=
  PE.imp (pe_op ho ha hb) fun _ _ _ hh => op_run hh
theorem pd_cmp {a b : Expr} {pos : Pos} {op : CmpOp} {o : D → D → Option A} (ho : OpR X (compareOp op) (rO X.K o)) (ha : PE X a (tE X.K f)) (hb : PE X b (tE X.K g)) (hm : behindInMarks op b = false) : PE X (.Compare a [op] [b] pos) (tE X.K (dOp o f g)) :=
  PE.imp (pe_cmpR ho ha hb hm) fun _ _ _ hh => op_run hh
def dTst (f : DE) : DT := fun sl io => (f sl io).bind fun p => match p.1 with
  | .dat (.bool b) => some (b, p.2)
  | _ => none
theorem tst_run {σ : L2.St} {H : Hp} {Q : Bool → Hp → Prop} (hh : tT X.K (dTst f) σ H Q) : tE X.K f σ H fun x H' => ∃ k, x = .bl k ∧ Q k H' := by
  obtain ⟨T, sl, io, hR, b, io', e, q⟩ := hh
  unfold dTst at e
  simp only [Option.bind_eq_some_iff, Prod.exists] at e
  obtain ⟨a, io1, e1, e2⟩ := e
  split at e2
  · cases e2
    refine one hR e1 fun x H1 s1 i1 v1 => ?_
    have v1' : Dd X.K (out T H1) x (.bool b) := v1
    cases v1'
    exact ⟨b, rfl, q H1 s1 i1⟩
  · cases e2
theorem pd_cmpT {a b : Expr} {pos : Pos} {op : CmpOp} {o : D → D → Option A} (ho : OpR X (compareOp op) (rO X.K o)) (ha : PE X a (tE X.K f)) (hb : PE X b (tE X.K g)) (hm : behindInMarks op b = false) : PT X (.Compare a [op] [b] pos) (tT X.K (dTst (dOp o f g))) := by
  refine PT.imp (pt_cmpR ho ha hb hm) fun σ H Q hh => ?_
  obtain ⟨T, sl, io, hR, b, io', e, q⟩ := hh
  refine op_run (f := f) (g := g) (Q := fun x H' => ∃ k, x = .bl k ∧ Q k H') (tst_run ⟨T, sl, io, hR, b, io', e, q⟩)
/-- any expression as a test -/
def truD : D → Option Bool
  | .none => some false
  | .bool b => some b
  | .int i => some (i != 0)
  | .str s => if s.length ≤ LIM then some ((s.length : Int) != 0) else none
  | .list ds => some (!ds.isEmpty)
  | .tuple ds => some (!ds.isEmpty)
  | .dict _ => none
def dTru (f : DE) : DT := fun sl io => (f sl io).bind fun p => (vw p.2 p.1).bind fun d => (truD d).map fun b => (b, p.2)
theorem isEmpty_dd {K : PySem.W.Frag} {H : Hp} {xs : List V} {ds : List D} (h : DdAll K H xs ds) : xs.isEmpty = ds.isEmpty := by
  cases h <;> rfl
theorem tru_of {K : PySem.W.Frag} {T : List Addr} {H : Hp} {v : V} {d : D} {b : Bool} (h : VwOk K T H v d) (e : truD d = some b) : TruV K v H b := by
  cases d with
  | none => cases h.non; cases e; rfl
  | bool c => cases h.bl; cases e; rfl
  | int i => cases h.int; cases e; rfl
  | str s =>
    cases h.str
    simp only [truD] at e
    split at e
    · cases e; exact ⟨lim_le (by assumption), rfl⟩
    · cases e
  | list ds =>
    obtain ⟨p, xs, rfl, hp, hd⟩ := h.lst
    cases e
    exact .inl ⟨xs, SqL.of hp, by rw [isEmpty_dd hd]⟩
  | tuple ds =>
    obtain ⟨p, xs, rfl, hp, hd⟩ := h.tup
    cases e
    exact .inr (.inl ⟨xs, Evl.ex_t out_ex hp, by rw [isEmpty_dd hd]⟩)
  | dict _ => cases e
theorem pd_tru {a : Expr} (ha : PE X a (tE X.K f)) (he : ∀ whole, isTrue a X.env whole = (do let v ← whole; standAt a.pos; holding [v] (truthy v)) := by intro _; rfl) : PT X a (tT X.K (dTru f)) := by
  refine PT.imp (pt_truth ha he) fun σ H Q hh => ?_
  obtain ⟨T, sl, io, hR, b, io', e, q⟩ := hh
  unfold dTru at e
  simp only [Option.bind_eq_some_iff, Option.map_eq_some_iff, Prod.exists, Prod.mk.injEq] at e
  obtain ⟨a, io1, e1, d, e2, b', e3, rfl, rfl⟩ := e
  exact one hR e1 fun x H1 s1 i1 v1 => ⟨_, tru_of (vw_ok v1 i1 e2) e3, q H1 s1 i1⟩

/-! #### arithmetic -/
def addD : D → D → Option A
  | .int i, .int j => some (.dat (.int (i + j)))
  | .str a, .str b => if a.length + b.length ≤ LIM then some (.dat (.str (a ++ b))) else none
  | .tuple xs, .tuple ys => if xs.length + ys.length ≤ LIM then some (.dat (.tuple (xs ++ ys))) else none
  | .list xs, .list ys => if xs.length + ys.length ≤ LIM then some (.tmp (xs ++ ys)) else none
  | _, _ => none
theorem dd_newT {K : PySem.W.Frag} {T : List Addr} {H : Hp} {p : Addr} {xs : List V} {ds : List D} (n : H p = none) (nt : p ∉ T) (h : DdAll K (out T H) xs ds) : Dd K (out T (upd H p (.tup xs))) (.ref p) (.tuple ds) :=
  .tup (SqT.of (by rw [out_not nt, upd_same])) (h.mono (Stp.of_ex (Ex.new n)).out)
theorem vok_newL {K : PySem.W.Frag} {T : List Addr} {H : Hp} {p : Addr} {xs : List V} {ds : List D} (n : H p = none) (nt : p ∉ T) (h : DdAll K (out T H) xs ds) : VOk K T H (upd H p (.lst xs)) (.ref p) (.tmp ds) :=
  ⟨p, xs, rfl, n, nt, upd_same, h.mono (Stp.of_ex (Ex.new n)).out⟩
theorem op_addD : OpR X (binaryOp .Add) (rO X.K addD) := by
  intro pins s σ H x y v u Q I rx ry ⟨T, d, e, r, hx, hy, ht, ho, q⟩
  unfold addD at ho
  split at ho
  · cases ho; cases hx.int; cases hy.int
    exact op_add pins s σ H _ _ v u Q I rx ry ⟨_, _, rfl, rfl, q _ H (Ex.refl _) (.int _)⟩
  · split at ho
    · cases ho; cases hx.str; cases hy.str
      exact op_add_str pins s σ H _ _ v u Q I rx ry ⟨_, _, rfl, rfl, lim_le (by assumption), q _ H (Ex.refl _) (.str _)⟩
    · cases ho
  · split at ho
    · cases ho
      obtain ⟨p, xs, rfl, hp, hd⟩ := hx.tup
      obtain ⟨p', ys, rfl, hp', hd'⟩ := hy.tup
      refine op_catA pins s σ H _ _ v u Q I rx ry ⟨p, p', xs, ys, rfl, rfl, Evl.ex_t out_ex hp, Evl.ex_t out_ex hp', ?_, ?_, ?_, ?_⟩
      · rw [hd.length, hd'.length]; exact lim_le (by assumption)
      · rintro rfl
        cases hd
        exact q _ H (Ex.refl _) (.tup hp' hd')
      · rintro _ rfl
        cases hd'
        exact q _ H (Ex.refl _) (by rw [List.append_nil]; exact .tup hp hd)
      · intro _ _ z hz
        exact q _ _ (Ex.new hz) (dd_newT hz (ht z hz) (hd.append hd'))
    · cases ho
  · split at ho
    · cases ho
      obtain ⟨p, xs, rfl, hp, hd⟩ := hx.lst
      obtain ⟨p', ys, rfl, hp', hd'⟩ := hy.lst
      refine op_cat pins s σ H _ _ v u Q I rx ry ⟨p, p', xs, ys, rfl, rfl, hp, hp', ?_, fun z hz => q _ _ (Ex.new hz) (vok_newL hz (ht z hz) (hd.append hd'))⟩
      rw [hd.length, hd'.length]; exact lim_le (by assumption)
    · cases ho
  · cases ho
def subD : D → D → Option A
  | .int i, .int j => some (.dat (.int (i - j)))
  | _, _ => none
theorem op_subD : OpR X (binaryOp .Sub) (rO X.K subD) := by
  intro pins s σ H x y v u Q I rx ry ⟨T, d, e, r, hx, hy, ht, ho, q⟩
  unfold subD at ho
  split at ho
  · cases ho; cases hx.int; cases hy.int
    exact op_sub pins s σ H _ _ v u Q I rx ry ⟨_, _, rfl, rfl, q _ H (Ex.refl _) (.int _)⟩
  · cases ho
def mulOk (i j : Int) : Bool := (decide (-(2 ^ 64) < i) && decide (i < 2 ^ 64)) || (decide (-(2 ^ 64) < j) && decide (j < 2 ^ 64))
theorem mulOk_c {i j : Int} (h : mulOk i j = true) : CMul i j := by
  unfold mulOk at h
  rw [Bool.or_eq_true, Bool.and_eq_true, Bool.and_eq_true] at h
  rcases h with ⟨a, b⟩ | ⟨a, b⟩
  · exact .inl ⟨of_decide_eq_true a, of_decide_eq_true b⟩
  · exact .inr ⟨of_decide_eq_true a, of_decide_eq_true b⟩
def mulD : D → D → Option A
  | .int i, .int j => if mulOk i j = true then some (.dat (.int (i * j))) else none
  | .list xs, .int k => if k < 1000 ∧ -1000 < k ∧ xs.length * k.toNat ≤ LIM then some (.tmp (List.replicate k.toNat xs).flatten) else none
  | _, _ => none
theorem op_mulD : OpR X (binaryOp .Mult) (rO X.K mulD) := by
  intro pins s σ H x y v u Q I rx ry ⟨T, d, e, r, hx, hy, ht, ho, q⟩
  unfold mulD at ho
  split at ho
  · split at ho
    · cases ho; cases hx.int; cases hy.int
      exact op_mul pins s σ H _ _ v u Q I rx ry ⟨_, _, rfl, rfl, mulOk_c (by assumption), q _ H (Ex.refl _) (.int _)⟩
    · cases ho
  · split at ho
    · rename_i hk
      cases ho; cases hy.int
      obtain ⟨p, xs, rfl, hp, hd⟩ := hx.lst
      refine op_rep pins s σ H _ _ v u Q I rx ry ⟨p, _, xs, rfl, rfl, hp, by omega, by omega, ?_, fun z hz => q _ _ (Ex.new hz) (vok_newL hz (ht z hz) (hd.rep _))⟩
      rw [hd.length]; exact lim_le hk.2.2
    · cases ho
  · cases ho
def fdivD : D → D → Option A
  | .int i, .int j => if 0 < j ∧ j < 1073741824 then some (.dat (.int (i / j))) else none
  | _, _ => none
theorem op_fdivD : OpR X (binaryOp .FloorDiv) (rO X.K fdivD) := by
  intro pins s σ H x y v u Q I rx ry ⟨T, d, e, r, hx, hy, ht, ho, q⟩
  unfold fdivD at ho
  split at ho
  · split at ho
    · cases ho; cases hx.int; cases hy.int
      exact op_fdiv pins s σ H _ _ v u Q I rx ry ⟨_, _, rfl, rfl, (by assumption), q _ H (Ex.refl _) (.int _)⟩
    · cases ho
  · cases ho
def modD : D → D → Option A
  | .int i, .int j => if 0 < j then some (.dat (.int (i % j))) else none
  | _, _ => none
theorem op_modD : OpR X (binaryOp .Mod) (rO X.K modD) := by
  intro pins s σ H x y v u Q I rx ry ⟨T, d, e, r, hx, hy, ht, ho, q⟩
  unfold modD at ho
  split at ho
  · split at ho
    · cases ho; cases hx.int; cases hy.int
      exact op_mod pins s σ H _ _ v u Q I rx ry ⟨_, _, rfl, rfl, (by assumption), q _ H (Ex.refl _) (.int _)⟩
    · cases ho
  · cases ho
def powD : D → D → Option A
  | .int i, .int j => if 0 ≤ j ∧ j ≤ 1000000 ∧ i.natAbs < 2 ^ 64 then some (.dat (.int (i ^ j.toNat))) else none
  | _, _ => none
theorem op_powD : OpR X (binaryOp .Pow) (rO X.K powD) := by
  intro pins s σ H x y v u Q I rx ry ⟨T, d, e, r, hx, hy, ht, ho, q⟩
  unfold powD at ho
  split at ho
  · split at ho
    · cases ho; cases hx.int; cases hy.int
      exact op_pow pins s σ H _ _ v u Q I rx ry ⟨_, _, rfl, rfl, (by assumption), q _ H (Ex.refl _) (.int _)⟩
    · cases ho
  · cases ho

/-! #### comparisons -/
def blA (b : Bool) : A := .dat (.bool b)
def eqS : D → D → Option Bool
  | .none, .none => some true
  | .none, .int _ => some false
  | .none, .bool _ => some false
  | .none, .str _ => some false
  | .int _, .none => some false
  | .bool _, .none => some false
  | .str _, .none => some false
  | .int i, .int j => some (decide (i = j))
  | .bool i, .bool j => some (decide (i = j))
  | .str i, .str j => some (decide (i = j))
  | .int _, .str _ => some false
  | .str _, .int _ => some false
  | .bool _, .str _ => some false
  | .str _, .bool _ => some false
  | _, _ => none
theorem eqS_ok {K : PySem.W.Frag} {T : List Addr} {H : Hp} {x y : V} {d e : D} {b : Bool} (hx : VwOk K T H x d) (hy : VwOk K T H y e) (h : eqS d e = some b) : scal x y = true ∧ decide (x = y) = b := by
  unfold eqS at h
  split at h <;> first | (cases h; done) | skip
  all_goals (cases h)
  all_goals first | cases hx.non | cases hx.int | cases hx.bl | cases hx.str
  all_goals first | cases hy.non | cases hy.int | cases hy.bl | cases hy.str
  all_goals refine ⟨rfl, ?_⟩
  all_goals first | rfl | (exact decide_eq_false (fun z => nomatch z)) | simp
def eqD (d e : D) : Option Bool := match eqS d e with
  | some b => some b
  | none => if SeqAt.shaped d && SeqAt.shaped e then some (PyData.eqv d e) else none
theorem op_eqDD (hu : X.A.units + 64 < cLine) : OpR X (compareOp .Eq) (rO X.K fun d e => (eqD d e).map blA) := by
  intro pins s σ H x y v u Q I rx ry ⟨T, d, e, r, hx, hy, ht, ho, q⟩
  rw [Option.map_eq_some_iff] at ho
  obtain ⟨b, hb, rfl⟩ := ho
  unfold eqD at hb
  split at hb
  · rename_i b' he
    cases hb
    obtain ⟨h1, h2⟩ := eqS_ok hx hy he
    exact op_eq pins s σ H _ _ v u Q I rx ry ⟨h1, by rw [h2]; exact q _ H (Ex.refl _) (.bl _)⟩
  · split at hb
    · rename_i hs
      rw [Bool.and_eq_true] at hs
      cases hb
      exact op_eqD hu pins s σ H _ _ v u Q I rx ry ⟨d, e, hx.dd.dp, hy.dd.dp, hs.1, hs.2, q _ H (Ex.refl _) (.bl _)⟩
    · cases hb
theorem op_neDD (hu : X.A.units + 64 < cLine) : OpR X (compareOp .NotEq) (rO X.K fun d e => (eqD d e).map fun b => blA (!b)) := by
  intro pins s σ H x y v u Q I rx ry ⟨T, d, e, r, hx, hy, ht, ho, q⟩
  rw [Option.map_eq_some_iff] at ho
  obtain ⟨b, hb, rfl⟩ := ho
  unfold eqD at hb
  split at hb
  · rename_i b' he
    cases hb
    obtain ⟨h1, h2⟩ := eqS_ok hx hy he
    exact op_ne pins s σ H _ _ v u Q I rx ry ⟨h1, by rw [h2]; exact q _ H (Ex.refl _) (.bl _)⟩
  · split at hb
    · rename_i hs
      rw [Bool.and_eq_true] at hs
      cases hb
      exact op_neD hu pins s σ H _ _ v u Q I rx ry ⟨d, e, hx.dd.dp, hy.dd.dp, hs.1, hs.2, q _ H (Ex.refl _) (.bl _)⟩
    · cases hb
def cmpI (p : Int → Int → Bool) : D → D → Option A
  | .int i, .int j => some (blA (p i j))
  | _, _ => none
theorem cmpI_op {op : CmpOp} {p : Int → Int → Bool} (h : OpR X (compareOp op) (rI0 fun i j => .bl (p i j))) : OpR X (compareOp op) (rO X.K (cmpI p)) := by
  intro pins s σ H x y v u Q I rx ry ⟨T, d, e, r, hx, hy, ht, ho, q⟩
  unfold cmpI at ho
  split at ho
  · cases ho; cases hx.int; cases hy.int
    exact h pins s σ H _ _ v u Q I rx ry ⟨_, _, rfl, rfl, q _ H (Ex.refl _) (.bl _)⟩
  · cases ho
def ltD := cmpI fun i j => decide (i < j)
def leD := cmpI fun i j => decide (i ≤ j)
def gtD := cmpI fun i j => decide (j < i)
def geD := cmpI fun i j => decide (j ≤ i)
theorem op_ltD : OpR X (compareOp .Lt) (rO X.K ltD) := cmpI_op op_lt
theorem op_leD : OpR X (compareOp .LtE) (rO X.K leD) := cmpI_op op_le
theorem op_gtD : OpR X (compareOp .Gt) (rO X.K gtD) := cmpI_op op_gt
theorem op_geD : OpR X (compareOp .GtE) (rO X.K geD) := cmpI_op op_ge
def isNonD : D → Bool
  | .none => true
  | _ => false
theorem isNon_ok {K : PySem.W.Frag} {T : List Addr} {H : Hp} {x : V} {d : D} (hx : VwOk K T H x d) : decide (x = .non) = isNonD d := by
  have h := hx.dd
  cases h <;> first | rfl | exact decide_eq_false (fun z => nomatch z)
def isD : D → D → Option A
  | d, .none => some (blA (isNonD d))
  | _, _ => none
def isntD : D → D → Option A
  | d, .none => some (blA (!isNonD d))
  | _, _ => none
theorem op_isD : OpR X (compareOp .Is) (rO X.K isD) := by
  intro pins s σ H x y v u Q I rx ry ⟨T, d, e, r, hx, hy, ht, ho, q⟩
  unfold isD at ho
  split at ho
  · cases ho; cases hy.non
    exact op_isN pins s σ H _ _ v u Q I rx ry ⟨rfl, by rw [isNon_ok hx]; exact q _ H (Ex.refl _) (.bl _)⟩
  · cases ho
theorem op_isntD : OpR X (compareOp .IsNot) (rO X.K isntD) := by
  intro pins s σ H x y v u Q I rx ry ⟨T, d, e, r, hx, hy, ht, ho, q⟩
  unfold isntD at ho
  split at ho
  · cases ho; cases hy.non
    exact op_notN pins s σ H _ _ v u Q I rx ry ⟨rfl, by rw [isNon_ok hx]; exact q _ H (Ex.refl _) (.bl _)⟩
  · cases ho
/-! in, not in -/
def flatD : D → Bool
  | .none => true
  | .bool _ => true
  | .int _ => true
  | .str _ => true
  | _ => false
def inAny (x : D) (ds : List D) : Bool := ds.any fun y => PyData.eqv y x
theorem flat_ok {K : PySem.W.Frag} {H : Hp} {x : V} {d : D} (h : Dd K H x d) (f : flatD d = true) : flatV x = true := by
  cases h <;> first | rfl | cases f
theorem flats_ok {K : PySem.W.Frag} {H : Hp} : ∀ {xs : List V} {ds : List D}, DdAll K H xs ds → ds.all flatD = true → xs.all flatV = true
  | _, _, .nil, _ => rfl
  | _, _, .cons h t, f => by
    rw [List.all_cons, Bool.and_eq_true] at f
    rw [List.all_cons, Bool.and_eq_true]
    exact ⟨flat_ok h f.1, flats_ok t f.2⟩
theorem eqv_ok {K : PySem.W.Frag} {H H' : Hp} {x y : V} {d e : D} (h : Dd K H x d) (h' : Dd K H' y e) (f : flatD d = true) (f' : flatD e = true) : eqV x y = PyData.eqv d e := by
  cases h <;> cases h' <;> first | rfl | (simp [eqV, PyData.eqv]; done) | cases f | cases f'
theorem inV_ok {K : PySem.W.Frag} {H H' : Hp} {x : V} {d : D} (h : Dd K H x d) (f : flatD d = true) : ∀ {xs : List V} {ds : List D}, DdAll K H' xs ds → ds.all flatD = true → inV x xs = inAny d ds
  | _, _, .nil, _ => rfl
  | _, _, .cons (d := d') (ds := ds) (vs := vs) (v := v) h2 t, f2 => by
    rw [List.all_cons, Bool.and_eq_true] at f2
    have ih := inV_ok h f t f2.2
    unfold inV inAny at ih ⊢
    rw [List.any_cons, List.any_cons, eqv_ok h2 h f2.1 f, ih]
def inD : D → D → Option Bool
  | .str a, .str b => match a.cps.toList with
    | [c] => some (decide (c ∈ b.cps.toList))
    | _ => some (!(Builtin.Str.occurrences b a 0 b.length 1).isEmpty)
  | d, .tuple ds => if flatD d && ds.all flatD then some (inAny d ds) else none
  | d, .list ds => if flatD d && ds.all flatD then some (inAny d ds) else none
  | _, _ => none
theorem in_cases {X : Cx} {neg : Bool} {x y : V} {T : List Addr} {H : Hp} {d e : D} {b : Bool} {Q : VK} (hx : VwOk X.K T H x d) (hy : VwOk X.K T H y e) (h : inD d e = some b) (q : Q (.bl (if neg then !b else b)) H) :
    (∃ (c : Nat) (z : Str), x = .str ⟨#[c]⟩ ∧ y = .str z ∧ Q (.bl (if neg then !decide (c ∈ z.cps.toList) else decide (c ∈ z.cps.toList))) H) ∨
    (∃ i j, x = .str i ∧ y = .str j ∧ Q (.bl (if neg then !(!(Builtin.Str.occurrences j i 0 j.length 1).isEmpty) else !(Builtin.Str.occurrences j i 0 j.length 1).isEmpty)) H) ∨ rIn X.K neg x y H Q := by
  unfold inD at h
  split at h
  · rename_i a b'
    cases hx.str; cases hy.str
    split at h
    · rename_i c hc
      cases h
      refine .inl ⟨c, b', ?_, rfl, q⟩
      have : a = ⟨#[c]⟩ := by
        obtain ⟨cps⟩ := a
        have : cps = #[c] := by
          have := congrArg List.toArray hc
          simpa using this
        rw [this]
      rw [this]
    · cases h
      exact .inr (.inl ⟨a, b', rfl, rfl, q⟩)
  · rename_i ds
    split at h
    · rename_i hf
      rw [Bool.and_eq_true] at hf
      cases h
      obtain ⟨p, xs, rfl, hp, hd⟩ := hy.tup
      exact .inr (.inr ⟨p, xs, rfl, .inr (Evl.ex_t out_ex hp), flat_ok hx.dd hf.1, flats_ok hd hf.2, by rw [inV_ok hx.dd hf.1 hd hf.2]; exact q⟩)
    · cases h
  · rename_i ds
    split at h
    · rename_i hf
      rw [Bool.and_eq_true] at hf
      cases h
      obtain ⟨p, xs, rfl, hp, hd⟩ := hy.lst
      exact .inr (.inr ⟨p, xs, rfl, .inl (SqL.of hp), flat_ok hx.dd hf.1, flats_ok hd hf.2, by rw [inV_ok hx.dd hf.1 hd hf.2]; exact q⟩)
    · cases h
  · cases h
theorem op_inD : OpR X (compareOp .In) (rO X.K fun d e => (inD d e).map blA) := by
  intro pins s σ H x y v u Q I rx ry ⟨T, d, e, r, hx, hy, ht, ho, q⟩
  rw [Option.map_eq_some_iff] at ho
  obtain ⟨b, hb, rfl⟩ := ho
  rcases in_cases (X := X) (neg := false) hx hy hb (q _ H (Ex.refl _) (.bl _)) with h | h | h
  · exact op_in_sign pins s σ H _ _ v u Q I rx ry h
  · exact op_in_str pins s σ H _ _ v u Q I rx ry h
  · exact op_in_seq pins s σ H _ _ v u Q I rx ry h
theorem op_notInD : OpR X (compareOp .NotIn) (rO X.K fun d e => (inD d e).map fun b => blA (!b)) := by
  intro pins s σ H x y v u Q I rx ry ⟨T, d, e, r, hx, hy, ht, ho, q⟩
  rw [Option.map_eq_some_iff] at ho
  obtain ⟨b, hb, rfl⟩ := ho
  rcases in_cases (X := X) (neg := true) hx hy hb (q _ H (Ex.refl _) (.bl _)) with h | h | h
  · exact op_notIn_sign pins s σ H _ _ v u Q I rx ry h
  · exact op_notIn_str pins s σ H _ _ v u Q I rx ry h
  · exact op_notIn_seq pins s σ H _ _ v u Q I rx ry h

/-! ### unary minus, not, and, or, if-else, chains -/
def dNeg (f : DE) : DE := fun sl io => (f sl io).bind fun p => match p.1 with
  | .dat (.int i) => some (.dat (.int (-i)), p.2)
  | _ => none
theorem pd_neg {a : Expr} {pos : Pos} (ha : PE X a (tE X.K f)) : PE X (.UnaryOp .USub a pos) (tE X.K (dNeg f)) := by
  refine PE.imp (pe_un un_neg ha) fun σ H Q hh => ?_
  obtain ⟨T, sl, io, hR, r, io', e, q⟩ := hh
  unfold dNeg at e
  simp only [Option.bind_eq_some_iff, Prod.exists] at e
  obtain ⟨a, io1, e1, e2⟩ := e
  split at e2
  · rename_i i
    cases e2
    refine one hR e1 fun x H1 s1 i1 v1 => ?_
    have v1' : Dd X.K (out T H1) x (.int i) := v1
    cases v1'
    exact ⟨i, rfl, q _ H1 s1 i1 (.int _)⟩
  · cases e2
def dNotT (t : DT) : DT := fun sl io => (t sl io).map fun p => (!p.1, p.2)
theorem pd_notT {a : Expr} {pos : Pos} {t : DT} (ha : PT X a (tT X.K t)) : PT X (.UnaryOp .Not a pos) (tT X.K (dNotT t)) := by
  refine PT.imp (pt_not ha) fun σ H Q hh => ?_
  obtain ⟨T, sl, io, hR, b, io', e, q⟩ := hh
  unfold dNotT at e
  simp only [Option.map_eq_some_iff, Prod.exists, Prod.mk.injEq] at e
  obtain ⟨c, io1, e1, rfl, rfl⟩ := e
  exact ⟨T, sl, io, hR, c, io1, e1, fun H' s i => q H' s i⟩
def dAndT (t u : DT) : DT := fun sl io => (t sl io).bind fun p => if p.1 then u sl p.2 else some (false, p.2)
def dOrT (t u : DT) : DT := fun sl io => (t sl io).bind fun p => if p.1 then some (true, p.2) else u sl p.2
theorem pd_and {a b : Expr} {rest : List Expr} {pos : Pos} {t u : DT} (ha : PT X a (tT X.K t)) (hb : PW X (.BoolOp .And (b :: rest) pos) (tT X.K u)) : PW X (.BoolOp .And (a :: b :: rest) pos) (tT X.K (dAndT t u)) := by
  refine ⟨fun wh pins s σ H Q I hh => (pw_and ha hb).run wh pins s σ H Q I ?_⟩
  obtain ⟨T, sl, io, hR, b, io', e, q⟩ := hh
  unfold dAndT at e
  simp only [Option.bind_eq_some_iff, Prod.exists] at e
  obtain ⟨c, io1, e1, e2⟩ := e
  refine ⟨T, sl, io, hR, c, io1, e1, fun H1 s1 i1 => ?_⟩
  cases c with
  | true => exact ⟨T, sl, io1, hR.step s1 i1, b, io', e2, fun H2 s2 i2 => q H2 (s1.trans s2) i2⟩
  | false => cases e2; exact q H1 s1 i1
theorem pd_or {a b : Expr} {rest : List Expr} {pos : Pos} {t u : DT} (ha : PT X a (tT X.K t)) (hb : PW X (.BoolOp .Or (b :: rest) pos) (tT X.K u)) : PW X (.BoolOp .Or (a :: b :: rest) pos) (tT X.K (dOrT t u)) := by
  refine ⟨fun wh pins s σ H Q I hh => (pw_or ha hb).run wh pins s σ H Q I ?_⟩
  obtain ⟨T, sl, io, hR, b, io', e, q⟩ := hh
  unfold dOrT at e
  simp only [Option.bind_eq_some_iff, Prod.exists] at e
  obtain ⟨c, io1, e1, e2⟩ := e
  refine ⟨T, sl, io, hR, c, io1, e1, fun H1 s1 i1 => ?_⟩
  cases c with
  | false => exact ⟨T, sl, io1, hR.step s1 i1, b, io', e2, fun H2 s2 i2 => q H2 (s1.trans s2) i2⟩
  | true => cases e2; exact q H1 s1 i1
def dNotV (f : DE) : DE := fun sl io => (f sl io).bind fun p => match p.1 with
  | .dat (.bool b) => some (.dat (.bool (!b)), p.2)
  | _ => none
theorem pd_notV {a : Expr} {pos : Pos} (ha : PE X a (tE X.K f)) : PE X (.UnaryOp .Not a pos) (tE X.K (dNotV f)) := by
  refine PE.imp (pe_not ha) fun σ H Q hh => ?_
  obtain ⟨T, sl, io, hR, r, io', e, q⟩ := hh
  unfold dNotV at e
  simp only [Option.bind_eq_some_iff, Prod.exists] at e
  obtain ⟨a, io1, e1, e2⟩ := e
  split at e2
  · rename_i i
    cases e2
    refine one hR e1 fun x H1 s1 i1 v1 => ?_
    have v1' : Dd X.K (out T H1) x (.bool i) := v1
    cases v1'
    exact ⟨i, rfl, q _ H1 s1 i1 (.bl _)⟩
  · cases e2
def dAndV (f g : DE) : DE := fun sl io => (f sl io).bind fun p => match p.1 with
  | .dat (.bool true) => g sl p.2
  | .dat (.bool false) => some (.dat (.bool false), p.2)
  | _ => none
def dOrV (f g : DE) : DE := fun sl io => (f sl io).bind fun p => match p.1 with
  | .dat (.bool false) => g sl p.2
  | .dat (.bool true) => some (.dat (.bool true), p.2)
  | _ => none
theorem pd_andV {a b : Expr} {rest : List Expr} {pos : Pos} (ha : PE X a (tE X.K f)) (hb : PE X (.BoolOp .And (b :: rest) pos) (tE X.K g)) : PE X (.BoolOp .And (a :: b :: rest) pos) (tE X.K (dAndV f g)) := by
  refine PE.imp (pe_and ha hb) fun σ H Q hh => ?_
  obtain ⟨T, sl, io, hR, r, io', e, q⟩ := hh
  unfold dAndV at e
  simp only [Option.bind_eq_some_iff, Prod.exists] at e
  obtain ⟨a, io1, e1, e2⟩ := e
  split at e2
  · skip
    refine one hR e1 fun x H1 s1 i1 v1 => ?_
    have v1' : Dd X.K (out T H1) x (.bool true) := v1
    cases v1'
    exact ⟨true, rfl, T, sl, io1, hR.step s1 i1, r, io', e2, fun v H2 s2 i2 v2 => q v H2 (s1.trans s2) i2 (v2.back s1)⟩
  · skip
    cases e2
    refine one hR e1 fun x H1 s1 i1 v1 => ?_
    have v1' : Dd X.K (out T H1) x (.bool false) := v1
    cases v1'
    exact ⟨false, rfl, q _ H1 s1 i1 (.bl _)⟩
  · cases e2
theorem pd_orV {a b : Expr} {rest : List Expr} {pos : Pos} (ha : PE X a (tE X.K f)) (hb : PE X (.BoolOp .Or (b :: rest) pos) (tE X.K g)) : PE X (.BoolOp .Or (a :: b :: rest) pos) (tE X.K (dOrV f g)) := by
  refine PE.imp (pe_or ha hb) fun σ H Q hh => ?_
  obtain ⟨T, sl, io, hR, r, io', e, q⟩ := hh
  unfold dOrV at e
  simp only [Option.bind_eq_some_iff, Prod.exists] at e
  obtain ⟨a, io1, e1, e2⟩ := e
  split at e2
  · skip
    refine one hR e1 fun x H1 s1 i1 v1 => ?_
    have v1' : Dd X.K (out T H1) x (.bool false) := v1
    cases v1'
    exact ⟨false, rfl, T, sl, io1, hR.step s1 i1, r, io', e2, fun v H2 s2 i2 v2 => q v H2 (s1.trans s2) i2 (v2.back s1)⟩
  · skip
    cases e2
    refine one hR e1 fun x H1 s1 i1 v1 => ?_
    have v1' : Dd X.K (out T H1) x (.bool true) := v1
    cases v1'
    exact ⟨true, rfl, q _ H1 s1 i1 (.bl _)⟩
  · cases e2
def dIfE (t : DT) (f g : DE) : DE := fun sl io => (t sl io).bind fun p => if p.1 then f sl p.2 else g sl p.2
theorem pd_ifE {c a b : Expr} {pos : Pos} {t : DT} (hc : PT X c (tT X.K t)) (ha : PE X a (tE X.K f)) (hb : PE X b (tE X.K g)) : PE X (.IfExp c a b pos) (tE X.K (dIfE t f g)) := by
  refine PE.imp (pe_ifExp hc ha hb) fun σ H Q hh => ?_
  obtain ⟨T, sl, io, hR, r, io', e, q⟩ := hh
  unfold dIfE at e
  simp only [Option.bind_eq_some_iff, Prod.exists] at e
  obtain ⟨b, io1, e1, e2⟩ := e
  refine ⟨T, sl, io, hR, b, io1, e1, fun H1 s1 i1 => ?_⟩
  cases b with
  | true => exact ⟨T, sl, io1, hR.step s1 i1, r, io', e2, fun v H2 s2 i2 v2 => q v H2 (s1.trans s2) i2 (v2.back s1)⟩
  | false => exact ⟨T, sl, io1, hR.step s1 i1, r, io', e2, fun v H2 s2 i2 v2 => q v H2 (s1.trans s2) i2 (v2.back s1)⟩
/-- a op1 b op2 c -/
def dChain (o o' : D → D → Option A) (f g h : DE) : DE := fun sl io => (f sl io).bind fun p => (g sl p.2).bind fun q => (vw q.2 p.1).bind fun x => (vw q.2 q.1).bind fun y => (o x y).bind fun r => match r with
  | .dat (.bool true) => (h sl q.2).bind fun z => (vw z.2 q.1).bind fun y' => (vw z.2 z.1).bind fun w => (o' y' w).map fun r' => (r', z.2)
  | .dat (.bool false) => some (.dat (.bool false), q.2)
  | _ => none
theorem chain_run {o o' : D → D → Option A} {σ : L2.St} {H : Hp} {Q : VK} (hh : tE X.K (dChain o o' f g h) σ H Q) : tChain (rO X.K o) (rO X.K o') (tE X.K f) (tE X.K g) (tE X.K h) σ H Q := by
  obtain ⟨T, sl, io, hR, r, io', e, q⟩ := hh
  unfold dChain at e
  simp only [Option.bind_eq_some_iff, Prod.exists] at e
  obtain ⟨a, io1, e1, b, io2, e2, x, e3, y, e4, r1, e5, e6⟩ := e
  refine two hR e1 e2 fun v u H2 s2 i2 va vb => ?_
  refine ⟨T, x, y, r1, vw_ok va i2 e3, vw_ok vb i2 e4, fun p n => i2.fresh n, e5, fun z H3 ex vz => ?_⟩
  have s3 := s2.trans (Stp.of_ex (T := T) ex)
  have i3 := i2.ex ex
  split at e6
  · have vz' : Dd X.K (out T H3) z (.bool true) := vz
    cases vz'
    simp only [Option.bind_eq_some_iff, Option.map_eq_some_iff, Prod.exists, Prod.mk.injEq] at e6
    obtain ⟨c, io3, e7, y', e8, w', e9, r2, e10, rfl, rfl⟩ := e6
    refine ⟨true, rfl, ?_⟩
    rw [if_pos rfl]
    refine one (hR.step s3 i3) e7 fun w4 H4 s4 i4 v4 => ?_
    have vb4 := vb.mono ((Stp.of_ex (T := T) ex).trans s4)
    exact ⟨T, y', w', r2, vw_ok vb4 i4 e8, vw_ok v4 i4 e9, fun p n => i4.fresh n, e10, fun z5 H5 ex5 v5 => q z5 H5 ((s3.trans s4).trans (Stp.of_ex ex5)) (i4.ex ex5) ((v5.back s4).back s3)⟩
  · have vz' : Dd X.K (out T H3) z (.bool false) := vz
    cases vz'
    cases e6
    refine ⟨false, rfl, ?_⟩
    rw [if_neg Bool.false_ne_true]
    exact q _ H3 s3 i3 (.bl _)
  · cases e6
theorem pd_chain {a b c : Expr} {pos : Pos} {op op' : CmpOp} {o o' : D → D → Option A} (ho : OpR X (compareOp op) (rO X.K o)) (ho' : OpR X (compareOp op') (rO X.K o')) (ha : PE X a (tE X.K f)) (hb : PE X b (tE X.K g)) (hc : PE X c (tE X.K h))
    (hm : lastMarks [op, op'] [b, c] = false := by with_unfolding_all rfl) : PE X (.Compare a [op, op'] [b, c] pos) (tE X.K (dChain o o' f g h)) := PE.imp (pe_chain ho ho' ha hb hc hm) fun _ _ _ hh => chain_run hh
theorem pd_chainT {a b c : Expr} {pos : Pos} {op op' : CmpOp} {o o' : D → D → Option A} (ho : OpR X (compareOp op) (rO X.K o)) (ho' : OpR X (compareOp op') (rO X.K o')) (ha : PE X a (tE X.K f)) (hb : PE X b (tE X.K g)) (hc : PE X c (tE X.K h))
    (hm : lastMarks [op, op'] [b, c] = false := by with_unfolding_all rfl) : PT X (.Compare a [op, op'] [b, c] pos) (tT X.K (dTst (dChain o o' f g h))) := by
  refine PT.imp (pt_chain ho ho' ha hb hc hm) fun σ H Q hh => ?_
  obtain ⟨T, sl, io, hR, b, io', e, q⟩ := hh
  exact chain_run (Q := fun x H' => ∃ k, x = .bl k ∧ Q k H') (tst_run ⟨T, sl, io, hR, b, io', e, q⟩)
end
end DD
set_option Elab.async false
set_option linter.all false
set_option maxRecDepth 100000
set_option maxHeartbeats 2000000
namespace DD
open PySem PySem.Spec PyProof.Rows L2

section
variable {X : Cx} {f g h : DE}
/-! ### subscripts -/
theorem ixN_len {n m : Nat} (h : n = m) (i : Int) : ixN n i = ixN m i := by rw [h]
def mkA (d : D) : A := .dat d
def idxD : D → D → Option A
  | .tuple ds, .int i => (atI ds i).map .dat
  | .list ds, .int i => (atI ds i).map .dat
  | .str s, .int i => if s.length ≤ LIM then (atI s.cps.toList i).map fun c => .dat (.str ⟨#[c]⟩) else none
  | _, _ => none
theorem atI_dd {K : PySem.W.Frag} {H : Hp} {xs : List V} {ds : List D} {i : Int} {d : D} (h : DdAll K H xs ds) (e : atI ds i = some d) : ∃ v, atI xs i = some v ∧ Dd K H v d := by
  unfold atI at e ⊢
  rw [ixN_len h.length]
  cases q : ixN ds.length i with
  | none => rw [q] at e; cases e
  | some j =>
    rw [q] at e
    obtain ⟨v, h1, h2⟩ := h.get (i := j) e
    exact ⟨v, h1, h2⟩
def rIO (K : PySem.W.Frag) : R2 := rO K idxD
theorem ix_any : IxR X (rIO X.K) := by
  intro value slice pins s σ H x y v u Q I rx ry ⟨T, d, e, r, hx, hy, ht, ho, q⟩ hs
  unfold idxD at ho
  split at ho
  · rw [Option.map_eq_some_iff] at ho
    obtain ⟨a, e1, rfl⟩ := ho
    cases hy.int
    obtain ⟨p, xs, rfl, hp, hd⟩ := hx.tup
    obtain ⟨z, h1, h2⟩ := atI_dd hd e1
    exact ix_tup value slice pins s σ H _ _ v u Q I rx ry ⟨p, xs, _, z, rfl, rfl, Evl.ex_t out_ex hp, h1, q z H (Ex.refl _) h2⟩ hs
  · rw [Option.map_eq_some_iff] at ho
    obtain ⟨a, e1, rfl⟩ := ho
    cases hy.int
    obtain ⟨p, xs, rfl, hp, hd⟩ := hx.lst
    obtain ⟨z, h1, h2⟩ := atI_dd hd e1
    exact ix_list value slice pins s σ H _ _ v u Q I rx ry ⟨p, xs, _, z, rfl, rfl, SqL.of hp, h1, q z H (Ex.refl _) h2⟩ hs
  · split at ho
    · rw [Option.map_eq_some_iff] at ho
      obtain ⟨c, e1, rfl⟩ := ho
      cases hx.str; cases hy.int
      exact ix_str value slice pins s σ H _ _ v u Q I rx ry ⟨_, _, c, rfl, rfl, lim_le (by assumption), e1, q _ H (Ex.refl _) (.str _)⟩ hs
    · cases ho
  · cases ho
theorem pd_ix {a b : Expr} {pos : Pos} (ha : PE X a (tE X.K f)) (hb : PE X b (tE X.K g)) (hs : PlainIx b := by intro _ _; rfl) : PE X (.Subscript a b pos) (tE X.K (dOp idxD f g)) :=
  PE.imp (pe_ix ix_any ha hb hs) fun _ _ _ hh => op_run hh

/-! ### slices -/
abbrev DO := List S → IO → Option (Option Int × IO)
def tO (K : PySem.W.Frag) (f : DO) : TO := fun σ H Q => ∃ T sl io, Rel K T σ sl io H ∧ ∃ b io', f sl io = some (b, io') ∧ ∀ H', Stp T H H' → IoOk K T io' H' → Q b H'
def dNo : DO := fun _ io => some (none, io)
def dPart (f : DE) : DO := fun sl io => (f sl io).bind fun p => match p.1 with
  | .dat (.int i) => some (some i, p.2)
  | _ => none
theorem PO.imp {e : Option Expr} {t t' : TO} (h : PO X e t) (hi : ∀ σ H Q, t' σ H Q → t σ H Q) : PO X e t' := ⟨fun pins s σ H Q I q => h.run pins s σ H Q I (hi σ H Q q)⟩
theorem po_no : PO X none (tO X.K dNo) := PO.imp po_none fun σ H Q hh => by
  obtain ⟨T, sl, io, hR, b, io', e, q⟩ := hh
  cases e
  exact q H (Stp.refl _ _) hR.io
theorem po_part {e : Expr} (he : PE X e (tE X.K f)) : PO X (some e) (tO X.K (dPart f)) := PO.imp (po_some he) fun σ H Q hh => by
  obtain ⟨T, sl, io, hR, b, io', e, q⟩ := hh
  unfold dPart at e
  simp only [Option.bind_eq_some_iff, Prod.exists] at e
  obtain ⟨a, io1, e1, e2⟩ := e
  split at e2
  · cases e2
    refine one hR e1 fun x H1 s1 i1 v1 => ?_
    have v1' := (VwOk.int (.inl v1))
    subst v1'
    exact ⟨_, rfl, q H1 s1 i1⟩
  · cases e2
/-- a slice of a list -/
def cutD (xs : List D) (lo hi : Option Int) : List D := (xs.drop (HT.sIx xs.length 0 lo)).take (HT.sIx xs.length xs.length hi - HT.sIx xs.length 0 lo)
theorem cut_dd {K : PySem.W.Frag} {H : Hp} {xs : List V} {ds : List D} (h : DdAll K H xs ds) (lo hi : Option Int) : DdAll K H (cutV xs lo hi) (cutD ds lo hi) := by
  unfold cutV cutD
  rw [h.length]
  exact (h.drop _).take _
theorem cutD_whole {xs : List D} {lo hi : Option Int} (h : HT.sIx xs.length 0 lo = 0 ∧ HT.sIx xs.length xs.length hi = xs.length) : cutD xs lo hi = xs := by
  unfold cutD
  rw [h.1, h.2]
  simp
def sliceD (d : D) (lo hi : Option Int) : Option A := match d with
  | .tuple ds => some (.dat (.tuple (cutD ds lo hi)))
  | .list ds => some (.tmp (cutD ds lo hi))
  | .str s => if s.length ≤ LIM then some (.dat (.str (cutS s lo hi))) else none
  | _ => none
def rSlO (K : PySem.W.Frag) : V → Option Int → Option Int → Hp → VK → Prop := fun x lo hi H Q => ∃ T d r, VwOk K T H x d ∧ (∀ p, H p = none → p ∉ T) ∧ sliceD d lo hi = some r ∧ ∀ v H', Ex H H' → VOk K T H H' v r → Q v H'
theorem sl_any : SlR X (rSlO X.K) := by
  intro pins s σ H x v vl vu lo hi sl Q I rx hs pl pu ⟨T, d, r, hx, ht, ho, q⟩
  unfold sliceD at ho
  split at ho
  · cases ho
    obtain ⟨p, xs, rfl, hp, hd⟩ := hx.tup
    refine sl_tupA pins s σ H _ v vl vu lo hi sl Q I rx hs pl pu ⟨p, xs, rfl, Evl.ex_t out_ex hp, fun hw => ?_, fun hw z hz => ?_⟩
    · rw [hd.length] at hw
      exact q _ H (Ex.refl _) (by rw [cutD_whole hw]; exact .tup hp hd)
    · exact q _ _ (Ex.new hz) (dd_newT hz (ht z hz) (cut_dd hd lo hi))
  · cases ho
    obtain ⟨p, xs, rfl, hp, hd⟩ := hx.lst
    exact sl_list pins s σ H _ v vl vu lo hi sl Q I rx hs pl pu ⟨p, xs, rfl, SqL.of hp, fun z hz => q _ _ (Ex.new hz) (vok_newL hz (ht z hz) (cut_dd hd lo hi))⟩
  · split at ho
    · cases ho; cases hx.str
      exact sl_str pins s σ H _ v vl vu lo hi sl Q I rx hs pl pu ⟨_, rfl, lim_le (by assumption), q _ H (Ex.refl _) (.str _)⟩
    · cases ho
  · cases ho
def dSl (f : DE) (lo hi : DO) : DE := fun sl io => (f sl io).bind fun p => (lo sl p.2).bind fun l => (hi sl l.2).bind fun u => (vw u.2 p.1).bind fun d => (sliceD d l.1 u.1).map fun r => (r, u.2)
theorem pd_slice {e : Expr} {lo hi : Option Expr} {dl dh : DO} {pos p2 : Pos} (he : PE X e (tE X.K f)) (hl : PO X lo (tO X.K dl)) (hu : PO X hi (tO X.K dh)) : PE X (.Subscript e (.Slice lo hi none p2) pos) (tE X.K (dSl f dl dh)) := by
  refine PE.imp (pe_slice sl_any he hl hu) fun σ H Q hh => ?_
  obtain ⟨T, sl, io, hR, r, io', e, q⟩ := hh
  unfold dSl at e
  simp only [Option.bind_eq_some_iff, Option.map_eq_some_iff, Prod.exists, Prod.mk.injEq] at e
  obtain ⟨a, io1, e1, l, io2, e2, u, io3, e3, d, e4, r', e5, rfl, rfl⟩ := e
  refine one hR e1 fun x H1 s1 i1 v1 => ⟨T, sl, io1, hR.step s1 i1, l, io2, e2, fun H2 s2 i2 => ⟨T, sl, io2, hR.step (s1.trans s2) i2, u, io3, e3, fun H3 s3 i3 => ?_⟩⟩
  have v3 := (v1.mono s2).mono s3
  have s0 := (s1.trans s2).trans s3
  exact ⟨T, d, _, vw_ok v3 i3 e4, fun p n => i3.fresh n, e5, fun z H' ex vz => q z H' (s0.trans (Stp.of_ex ex)) (i3.ex ex) (vz.back s0)⟩
/-- script[:n] -/
def dScr (i : Nat) (lo hi : DO) : DE := fun sl io => match sl[i]? with
  | some (.scr ns) => (lo sl io).bind fun l => (hi sl l.2).map fun u => (.tmp (cutD (ns.map .int) l.1 u.1), u.2)
  | _ => none
theorem pd_scr {e : Expr} {i : Nat} {lo hi : Option Expr} {dl dh : DO} {pos p2 : Pos} (he : PE X e (tVar i)) (hl : PO X lo (tO X.K dl)) (hu : PO X hi (tO X.K dh)) : PE X (.Subscript e (.Slice lo hi none p2) pos) (tE X.K (dScr i dl dh)) := by
  refine PE.imp (pe_slice sl_list he hl hu) fun σ H Q hh => ?_
  obtain ⟨T, sl, io, hR, r, io', e, q⟩ := hh
  unfold dScr at e
  split at e
  · rename_i ns hs
    obtain ⟨a, ea, hq⟩ := hR.slot i _ hs
    simp only [Option.bind_eq_some_iff, Option.map_eq_some_iff, Prod.exists, Prod.mk.injEq] at e
    obtain ⟨l, io2, e2, u, io3, e3, rfl, rfl⟩ := e
    refine ⟨_, ea, T, sl, io, hR, l, io2, e2, fun H2 s2 i2 => ⟨T, sl, io2, hR.step s2 i2, u, io3, e3, fun H3 s3 i3 => ?_⟩⟩
    have s0 := s2.trans s3
    exact ⟨a, ns.map V.int, rfl, Evl.ex_l out_ex (Evl.ex_l s0.out hq), fun z hz => q _ _ (s0.trans (Stp.of_ex (Ex.new hz))) (i3.ex (Ex.new hz)) ((vok_newL hz (i3.fresh hz) (cut_dd DdAll.ints _ _)).back s0)⟩
  · cases e
def dScrLen (i : Nat) : DE := fun sl io => match sl[i]? with
  | some (.scr ns) => some (.dat (.int ns.length), io)
  | _ => none

/-! ### argument lists -/
def dNil : DA := fun _ io => some ([], io)
def dCons (f : DE) (g : DA) : DA := fun sl io => (f sl io).bind fun p => (g sl p.2).map fun q => (p.1 :: q.1, q.2)
theorem pda_nil : PA X [] (tA X.K dNil) := PA.imp pa_nil fun σ H Q hh => by
  obtain ⟨T, sl, io, hR, b, io', e, q⟩ := hh
  cases e
  exact q [] H (Stp.refl _ _) hR.io .nil
theorem pda_cons {e : Expr} {es : List Expr} {g : DA} (ha : PE X e (tE X.K f)) (hr : PA X es (tA X.K g)) (hs : starEach (e :: es) X.env = (false, eval e X.env) :: starEach es X.env := by rfl) : PA X (e :: es) (tA X.K (dCons f g)) := PA.imp (pa_cons ha hr hs) fun σ H Q hh => by
  obtain ⟨T, sl, io, hR, b, io', e, q⟩ := hh
  unfold dCons at e
  simp only [Option.bind_eq_some_iff, Option.map_eq_some_iff, Prod.exists, Prod.mk.injEq] at e
  obtain ⟨a, io1, e1, as, io2, e2, rfl, rfl⟩ := e
  exact one hR e1 fun x H1 s1 i1 v1 => ⟨T, sl, io1, hR.step s1 i1, as, io2, e2, fun vs H2 s2 i2 v2 => q _ H2 (s1.trans s2) i2 (.cons (v1.mono s2) (v2.back s1))⟩
/-- views of several; refs allowed or not -/
def vws (io : IO) : List A → Option (List D)
  | [] => some []
  | a :: as => (vw io a).bind fun d => (vws io as).map fun ds => d :: ds
def vwI : A → Option D
  | .dat d => some d
  | .tmp ds => some (.list ds)
  | .ref _ => none
def vwIs : List A → Option (List D)
  | [] => some []
  | a :: as => (vwI a).bind fun d => (vwIs as).map fun ds => d :: ds
inductive VwAll (K : PySem.W.Frag) (T : List Addr) (H : Hp) : List V → List D → Prop
  | nil : VwAll K T H [] []
  | cons {v : V} {d : D} {vs : List V} {ds : List D} : VwOk K T H v d → VwAll K T H vs ds → VwAll K T H (v :: vs) (d :: ds)
section
variable {K : PySem.W.Frag} {T : List Addr} {H H0 : Hp} {io : IO}
theorem vws_ok (i : IoOk K T io H) : ∀ {vs : List V} {as : List A} {ds : List D}, VOkAll K T H0 H vs as → vws io as = some ds → VwAll K T H vs ds
  | _, _, _, .nil, e => by cases e; exact .nil
  | _, _, _, .cons h t, e => by
    unfold vws at e
    simp only [Option.bind_eq_some_iff, Option.map_eq_some_iff] at e
    obtain ⟨d, e1, ds, e2, rfl⟩ := e
    exact .cons (vw_ok h i e1) (vws_ok i t e2)
theorem vwI_ok {v : V} {a : A} {d : D} (h : VOk K T H0 H v a) (e : vwI a = some d) : Dd K (out T H) v d := by
  cases a with
  | dat d' => cases e; exact h
  | tmp ds =>
    cases e
    obtain ⟨p, xs, rfl, n, nt, hp, hd⟩ := h
    exact .lst (by rw [out_not nt]; exact hp) hd
  | ref k => cases e
theorem vwIs_ok : ∀ {vs : List V} {as : List A} {ds : List D}, VOkAll K T H0 H vs as → vwIs as = some ds → DdAll K (out T H) vs ds
  | _, _, _, .nil, e => by cases e; exact .nil
  | _, _, _, .cons h t, e => by
    unfold vwIs at e
    simp only [Option.bind_eq_some_iff, Option.map_eq_some_iff] at e
    obtain ⟨d, e1, ds, e2, rfl⟩ := e
    exact .cons (vwI_ok h e1) (vwIs_ok t e2)
theorem VwAll.dd : ∀ {vs : List V} {ds : List D}, VwAll K T H vs ds → DdAll K H vs ds
  | _, _, .nil => .nil
  | _, _, .cons h t => .cons h.dd t.dd
end
/-! displays -/
def dTup (g : DA) : DE := fun sl io => (g sl io).bind fun p => (vwIs p.1).bind fun ds => if ds.length ≤ LIM then some (.dat (.tuple ds), p.2) else none
theorem pd_tup {es : List Expr} {g : DA} {x1 : Nat} {pos : Pos} (h : PA X es (tA X.K g)) : PE X (.Tuple es x1 pos) (tE X.K (dTup g)) := PE.imp (pe_tup h) fun σ H Q hh => by
  obtain ⟨T, sl, io, hR, r, io', e, q⟩ := hh
  unfold dTup at e
  simp only [Option.bind_eq_some_iff, Prod.exists] at e
  obtain ⟨as, io1, e1, ds, e2, e3⟩ := e
  split at e3
  · cases e3
    refine ⟨T, sl, io, hR, as, _, e1, fun vs H1 s1 i1 v1 => ?_⟩
    have hd := vwIs_ok v1 e2
    refine ⟨by rw [hd.length]; exact lim_le (by assumption), fun p hp => q _ _ (s1.trans (Stp.of_ex (Ex.new hp))) (i1.ex (Ex.new hp)) (dd_newT hp (i1.fresh hp) hd)⟩
  · cases e3
def dLst (g : DA) : DE := fun sl io => (g sl io).bind fun p => (vwIs p.1).bind fun ds => if ds.length ≤ LIM then some (.tmp ds, p.2) else none
theorem pd_lst {es : List Expr} {g : DA} {pos : Pos} (h : PA X es (tA X.K g)) : PE X (.List es pos) (tE X.K (dLst g)) := PE.imp (pe_lst h) fun σ H Q hh => by
  obtain ⟨T, sl, io, hR, r, io', e, q⟩ := hh
  unfold dLst at e
  simp only [Option.bind_eq_some_iff, Prod.exists] at e
  obtain ⟨as, io1, e1, ds, e2, e3⟩ := e
  split at e3
  · cases e3
    refine ⟨T, sl, io, hR, as, _, e1, fun vs H1 s1 i1 v1 => ?_⟩
    have hd := vwIs_ok v1 e2
    refine ⟨by rw [hd.length]; exact lim_le (by assumption), fun p hp => q _ _ (s1.trans (Stp.of_ex (Ex.new hp))) (i1.ex (Ex.new hp)) ((vok_newL hp (i1.fresh hp) hd).back s1)⟩
  · cases e3

/-! ### builtins called -/
def rC (K : PySem.W.Frag) (o : List D → Option A) : List V → Hp → VK → Prop := fun xs H Q => ∃ T ds r, VwAll K T H xs ds ∧ (∀ p, H p = none → p ∉ T) ∧ o ds = some r ∧ ∀ v H', Ex H H' → VOk K T H H' v r → Q v H'
def dCall (o : List D → Option A) (g : DA) : DE := fun sl io => (g sl io).bind fun p => (vws p.2 p.1).bind fun ds => (o ds).map fun r => (r, p.2)
theorem call_run {o : List D → Option A} {g : DA} {σ : L2.St} {H : Hp} {Q : VK} (hh : tE X.K (dCall o g) σ H Q) : tA X.K g σ H (fun xs H1 => rC X.K o xs H1 Q) := by
  obtain ⟨T, sl, io, hR, r, io', e, q⟩ := hh
  unfold dCall at e
  simp only [Option.bind_eq_some_iff, Option.map_eq_some_iff, Prod.exists, Prod.mk.injEq] at e
  obtain ⟨as, io1, e1, ds, e2, r', e3, rfl, rfl⟩ := e
  exact ⟨T, sl, io, hR, as, _, e1, fun vs H1 s1 i1 v1 => ⟨T, ds, _, vws_ok i1 v1 e2, fun p n => i1.fresh n, e3, fun z H' ex vz => q z H' (s1.trans (Stp.of_ex ex)) (i1.ex ex) (vz.back s1)⟩⟩
theorem pd_callB {x : Str} {id : String} {e : Expr} {es : List Expr} {p pos : Pos} {o : List D → Option A} {g : DA} (hc : CallR X (.builtin id) (rC X.K o)) (hg : Gl X x) (hm : X.mg x = none) (hv : bootBuiltins x = some (.builtin id)) (ha : PA X (e :: es) (tA X.K g))
    (hn : x ≠ "__name__" := by decide) (hdb : (x == ("__debug__" : Str)) = false := by decide) (he : starEach (e :: es) X.env = (false, eval e X.env) :: starEach es X.env := by rfl) (hpl : (backTo pos (starEach es X.env)).any (·.1) = false := by rfl) :
    PE X (.Call (.Name x p) (e :: es) [] pos) (tE X.K (dCall o g)) := PE.imp (pe_callB hc hg hm hv ha hn hdb he hpl) fun _ _ _ hh => call_run hh
theorem pd_callT {x : Str} {id : String} {e : Expr} {es : List Expr} {p pos : Pos} {o : List D → Option A} {g : DA} (hc : CallR X (.type id) (rC X.K o)) (hg : Gl X x) (hm : X.mg x = none) (hv : bootBuiltins x = some (.type id)) (ha : PA X (e :: es) (tA X.K g))
    (hn : x ≠ "__name__" := by decide) (hdb : (x == ("__debug__" : Str)) = false := by decide) (he : starEach (e :: es) X.env = (false, eval e X.env) :: starEach es X.env := by rfl) (hpl : (backTo pos (starEach es X.env)).any (·.1) = false := by rfl) :
    PE X (.Call (.Name x p) (e :: es) [] pos) (tE X.K (dCall o g)) := PE.imp (pe_callTy hc hg hm hv ha hn hdb he hpl) fun _ _ _ hh => call_run hh
def lenD : List D → Option A
  | [.tuple ds] => some (.dat (.int ds.length))
  | [.list ds] => some (.dat (.int ds.length))
  | [.str s] => if s.length ≤ LIM then some (.dat (.int s.length)) else none
  | _ => none
theorem call_lenD : CallR X (.builtin "len") (rC X.K lenD) := by
  intro pins s σ H xs us Q I r ⟨T, ds, a, hx, ht, ho, q⟩
  unfold lenD at ho
  split at ho
  · cases ho
    cases hx with
    | cons hx hn =>
      cases hn
      obtain ⟨p, ys, rfl, hp, hd⟩ := hx.tup
      exact call_len_seq pins s σ H _ us Q I r ⟨p, ys, rfl, .inr (Evl.ex_t out_ex hp), by rw [hd.length]; exact q _ H (Ex.refl _) (.int _)⟩
  · cases ho
    cases hx with
    | cons hx hn =>
      cases hn
      obtain ⟨p, ys, rfl, hp, hd⟩ := hx.lst
      exact call_len_seq pins s σ H _ us Q I r ⟨p, ys, rfl, .inl (SqL.of hp), by rw [hd.length]; exact q _ H (Ex.refl _) (.int _)⟩
  · split at ho
    · cases ho
      cases hx with
      | cons hx hn =>
        cases hn
        cases hx.str
        exact call_len_str pins s σ H _ us Q I r ⟨_, rfl, lim_le (by assumption), q _ H (Ex.refl _) (.int _)⟩
    · cases ho
  · cases ho
def intD : List D → Option A
  | [.int i] => some (.dat (.int i))
  | [.bool b] => some (.dat (.int (if b then 1 else 0)))
  | _ => none
theorem call_intD : CallR X (.type "int") (rC X.K intD) := by
  intro pins s σ H xs us Q I r ⟨T, ds, a, hx, ht, ho, q⟩
  unfold intD at ho
  split at ho
  · cases ho
    cases hx with
    | cons hx hn =>
      cases hn
      cases hx.int
      exact call_int1 pins s σ H _ us Q I r (.inl ⟨_, rfl, q _ H (Ex.refl _) (.int _)⟩)
  · cases ho
    cases hx with
    | cons hx hn =>
      cases hn
      cases hx.bl
      exact call_int1 pins s σ H _ us Q I r (.inr ⟨_, rfl, q _ H (Ex.refl _) (.int _)⟩)
  · cases ho
def strOfD : List D → Option A
  | [.int i] => if i.natAbs < 1000000 then some (.dat (.str (toString i))) else none
  | _ => none
theorem log2_small {n : Nat} (h : n < 1000000) : n.log2 < 1920 := by
  by_cases h0 : n = 0
  · subst h0; decide
  · have := (Nat.log2_lt h0 (k := 1920)).mpr (Nat.lt_of_lt_of_le h (by decide))
    exact this
theorem call_strD : CallR X (.type "str") (rC X.K strOfD) := by
  intro pins s σ H xs us Q I r ⟨T, ds, a, hx, ht, ho, q⟩
  unfold strOfD at ho
  split at ho
  · split at ho
    · cases ho
      cases hx with
      | cons hx hn =>
        cases hn
        cases hx.int
        exact call_str_int pins s σ H _ us Q I r ⟨_, rfl, log2_small (by assumption), q _ H (Ex.refl _) (.str _)⟩
    · cases ho
  · cases ho
def maxD : List D → Option A
  | [.int i, .int j] => some (.dat (.int (if j > i then j else i)))
  | _ => none
theorem call_maxD (hc : X.calm = true) : CallR X (.builtin "max") (rC X.K maxD) := by
  intro pins s σ H xs us Q I r ⟨T, ds, a, hx, ht, ho, q⟩
  unfold maxD at ho
  split at ho
  · cases ho
    cases hx with
    | cons hx hn =>
      cases hn with
      | cons hy hn =>
        cases hn
        cases hx.int; cases hy.int
        exact call_max2 hc pins s σ H _ us Q I r ⟨_, _, rfl, q _ H (Ex.refl _) (.int _)⟩
  · cases ho
def minD : List D → Option A
  | [.int i, .int j] => some (.dat (.int (if j < i then j else i)))
  | _ => none
theorem call_minD (hc : X.calm = true) : CallR X (.builtin "min") (rC X.K minD) := by
  intro pins s σ H xs us Q I r ⟨T, ds, a, hx, ht, ho, q⟩
  unfold minD at ho
  split at ho
  · cases ho
    cases hx with
    | cons hx hn =>
      cases hn with
      | cons hy hn =>
        cases hn
        cases hx.int; cases hy.int
        exact call_min2 hc pins s σ H _ us Q I r ⟨_, _, rfl, q _ H (Ex.refl _) (.int _)⟩
  · cases ho
def tupleD : List D → Option A
  | [.list ds] => some (.dat (.tuple ds))
  | [.tuple ds] => some (.dat (.tuple ds))
  | _ => none
theorem call_tupleD : CallR X (.type "tuple") (rC X.K tupleD) := by
  intro pins s σ H xs us Q I r ⟨T, ds, a, hx, ht, ho, q⟩
  unfold tupleD at ho
  split at ho
  · cases ho
    cases hx with
    | cons hx hn =>
      cases hn
      obtain ⟨p, ys, rfl, hp, hd⟩ := hx.lst
      exact call_tuple_of pins s σ H _ us Q I r ⟨p, ys, rfl, .inl ⟨SqL.of hp, fun z hz => q _ _ (Ex.new hz) (dd_newT hz (ht z hz) hd)⟩⟩
  · cases ho
    cases hx with
    | cons hx hn =>
      cases hn
      obtain ⟨p, ys, rfl, hp, hd⟩ := hx.tup
      exact call_tuple_of pins s σ H _ us Q I r ⟨p, ys, rfl, .inr ⟨Evl.ex_t out_ex hp, q _ _ (Ex.refl _) (.tup hp hd)⟩⟩
  · cases ho
def listD : List D → Option A
  | [.list ds] => some (.tmp ds)
  | [.tuple ds] => some (.tmp ds)
  | _ => none
theorem call_listD : CallR X (.type "list") (rC X.K listD) := by
  intro pins s σ H xs us Q I r ⟨T, ds, a, hx, ht, ho, q⟩
  unfold listD at ho
  split at ho
  · cases ho
    cases hx with
    | cons hx hn =>
      cases hn
      obtain ⟨p, ys, rfl, hp, hd⟩ := hx.lst
      exact call_list_of pins s σ H _ us Q I r ⟨p, ys, rfl, .inl (SqL.of hp), fun z hz => q _ _ (Ex.new hz) (vok_newL hz (ht z hz) hd)⟩
  · cases ho
    cases hx with
    | cons hx hn =>
      cases hn
      obtain ⟨p, ys, rfl, hp, hd⟩ := hx.tup
      exact call_list_of pins s σ H _ us Q I r ⟨p, ys, rfl, .inr (Evl.ex_t out_ex hp), fun z hz => q _ _ (Ex.new hz) (vok_newL hz (ht z hz) hd)⟩
  · cases ho
/-! isinstance(x, T), T a built-in type -/
def tyOfD : D → Option String
  | .none => some "NoneType"
  | .bool _ => some "bool"
  | .int _ => some "int"
  | .str _ => some "str"
  | .list _ => some "list"
  | .tuple _ => some "tuple"
  | .dict _ => none
def isiD (ty : String) (d : D) : Option A := (tyOfD d).bind fun t => (kitB t ty).map blA
theorem tyX_of {K : PySem.W.Frag} {H : Hp} {x : V} {d : D} {t : String} (h : Dd K H x d) (e : tyOfD d = some t) : TyX K H x (.type t) := by
  cases h with
  | non => cases e; exact .base .non
  | bl b => cases e; exact .base (.bl b)
  | int i => cases e; exact .base (.int i)
  | str s => cases e; exact .base (.str s)
  | lst h1 h2 => cases e; exact .base (.lst h1)
  | tup h1 h2 =>
    cases e
    rcases h1 with (h1 | ⟨o, h1⟩) | ⟨o, its, n, h1, h2, _⟩
    · exact .base (.tup h1)
    · exact .fTuple h1
    · exact .kTuple h1 h2
def dIsi (ty : String) (f : DE) : DE := fun sl io => (f sl io).bind fun p => (vw p.2 p.1).bind fun d => (isiD ty d).map fun r => (r, p.2)
theorem pd_isi {ty : String} {tyN : Str} {e : Expr} {p p2 pos : Pos} (hg : Gl X "isinstance") (hm : X.mg "isinstance" = none) (hg2 : Gl X tyN) (hm2 : X.mg tyN = none) (hv2 : bootBuiltins tyN = some (.type ty)) (ha : PE X e (tE X.K f))
    (hv : bootBuiltins "isinstance" = some (.builtin "isinstance") := by decide +kernel) (hn2 : tyN ≠ "__name__" := by decide) (hdb2 : (tyN == ("__debug__" : Str)) = false := by decide)
    (hs : starEach [e, .Name tyN p2] X.env = (false, eval e X.env) :: starEach [.Name tyN p2] X.env := by rfl) (hs2 : starEach [.Name tyN p2] X.env = (false, eval (.Name tyN p2) X.env) :: starEach [] X.env := by rfl) (hpl : (backTo pos (starEach [.Name tyN p2] X.env)).any (·.1) = false := by rfl) :
    PE X (.Call (.Name "isinstance" p) [e, .Name tyN p2] [] pos) (tE X.K (dIsi ty f)) := by
  refine PE.imp (pe_callB call_isi hg hm hv (pa_cons ha (pa_cons (pe_bltn (v := .ty ty) hg2 hm2 hv2 rfl hn2 hdb2) pa_nil hs2) hs) (by decide) (by decide) hs hpl) fun σ H Q hh => ?_
  obtain ⟨T, sl, io, hR, r, io', e, q⟩ := hh
  unfold dIsi isiD at e
  simp only [Option.bind_eq_some_iff, Option.map_eq_some_iff, Prod.exists, Prod.mk.injEq] at e
  obtain ⟨a, io1, e1, d, e2, r', ⟨t, e3, b, e4, rfl⟩, rfl, rfl⟩ := e
  refine one hR e1 fun x H1 s1 i1 v1 => ?_
  exact ⟨x, .ty ty, .type t, .type ty, b, rfl, .ty ty, tyX_of (vw_ok v1 i1 e2).dd e3, kit_ty e4, q _ H1 s1 i1 (.bl _)⟩

/-! ### methods of texts -/
def rM (K : PySem.W.Frag) (o : Str → List D → Option A) : V → List V → Hp → VK → Prop := fun x xs H Q => ∃ T z ds r, x = .str z ∧ VwAll K T H xs ds ∧ (∀ p, H p = none → p ∉ T) ∧ o z ds = some r ∧ ∀ v H', Ex H H' → VOk K T H H' v r → Q v H'
def dMeth (o : Str → List D → Option A) (f : DE) (g : DA) : DE := fun sl io => (f sl io).bind fun p => match p.1 with
  | .dat (.str z) => (g sl p.2).bind fun q => (vws q.2 q.1).bind fun ds => (o z ds).map fun r => (r, q.2)
  | _ => none
theorem pd_meth {o : Expr} {e : Expr} {es : List Expr} {name : Str} {id : String} {apos cpos : Pos} {oo : Str → List D → Option A} {g : DA} (slot : Slot "str" name id) (hty : typeOf (.builtin id) = pure (.type "method_descriptor")) (hm : MtR X id (rM X.K oo)) (ho : PE X o (tE X.K f)) (ha : PA X (e :: es) (tA X.K g))
    (hbase : attributeBase o name X.env (eval o X.env) = eval o X.env := by rfl)
    (hfew : ((backTo cpos (starEach (e :: es) X.env)).all (fun x => !x.1) && (backToKw cpos (keywordEach [] X.env)).all (fun x => x.1.isSome)
      && decide ((e :: es).length + ([] : List Keyword).length + (if ([] : List Keyword).isEmpty then 0 else 1) < 30)) = true := by rfl)
    (hline : (apos.endLine == cpos.line) = true := by rfl) (hs : starEach (e :: es) X.env = (false, eval e X.env) :: starEach es X.env := by rfl) (hplain : (backTo cpos (starEach es X.env)).any (·.1) = false := by rfl) :
    PE X (.Call (.Attribute o name apos) (e :: es) [] cpos) (tE X.K (dMeth oo f g)) := by
  refine PE.imp (pe_bm PySem.F.plainAttrs_str slot hty hm ho ha hbase hfew hline hs hplain) fun σ H Q hh => ?_
  obtain ⟨T, sl, io, hR, r, io', e, q⟩ := hh
  unfold dMeth at e
  simp only [Option.bind_eq_some_iff, Prod.exists] at e
  obtain ⟨a, io1, e1, e2⟩ := e
  split at e2
  · rename_i z
    simp only [Option.bind_eq_some_iff, Option.map_eq_some_iff, Prod.exists, Prod.mk.injEq] at e2
    obtain ⟨as, io2, e3, ds, e4, r', e5, rfl, rfl⟩ := e2
    refine one hR e1 fun x H1 s1 i1 v1 => ?_
    have v1' := VwOk.str (.inl v1)
    subst v1'
    refine ⟨rfl, T, sl, io1, hR.step s1 i1, as, _, e3, fun vs H2 s2 i2 v2 => ?_⟩
    exact ⟨T, z, ds, _, rfl, vws_ok i2 v2 e4, fun p n => i2.fresh n, e5, fun v H' ex vz => q v H' ((s1.trans s2).trans (Stp.of_ex ex)) (i2.ex ex) (vz.back (s1.trans s2))⟩
  · cases e2
def splitD (z : Str) : List D → Option A
  | [.str b] => if (b.length == 0) = false ∧ z.length ≤ LIM then some (.tmp ((Txt.split z b).map .str)) else none
  | _ => none
theorem mt_splitD : MtR X "str.split" (rM X.K splitD) := by
  intro pins s σ H x xs v us Q I rx rs ⟨T, z, ds, a, ez, hx, ht, ho, q⟩
  subst ez
  unfold splitD at ho
  split at ho
  · split at ho
    · rename_i hl
      cases ho
      cases hx with
      | cons hx hn =>
        cases hn
        cases hx.str
        refine mt_split pins s σ H _ _ v us Q I rx rs ⟨z, _, rfl, rfl, hl.1, ?_, fun p hp => q _ _ (Ex.new hp) (vok_newL hp (ht p hp) DdAll.strs)⟩
        have := hl.2
        unfold LIM at this
        rw [sizeLine_eq]; omega
    · cases ho
  · cases ho
def strsOf : List D → Option (List Str)
  | [] => some []
  | .str s :: r => (strsOf r).map fun l => s :: l
  | _ => none
theorem strsOf_ok {K : PySem.W.Frag} {H : Hp} : ∀ {xs : List V} {ds : List D} {ss : List Str}, DdAll K H xs ds → strsOf ds = some ss → xs = ss.map V.str
  | _, _, _, .nil, e => by cases e; rfl
  | _, _, _, .cons h t, e => by
    unfold strsOf at e
    split at e
    · rename_i heq; cases heq
    · rename_i s r heq
      cases heq
      rw [Option.map_eq_some_iff] at e
      obtain ⟨l, e1, rfl⟩ := e
      cases h
      rw [List.map_cons, strsOf_ok t e1]
    · cases e
theorem strsOf_map (ss : List Str) : strsOf (ss.map .str) = some ss := by
  induction ss with
  | nil => rfl
  | cons s r ih => rw [List.map_cons, strsOf, ih]; rfl
def joinLen (z : Str) (ss : List Str) : Nat := (ss.map (·.length)).sum + ss.length * z.length
def joinD (z : Str) : List D → Option A
  | [.list ds] => (strsOf ds).bind fun ss => if joinLen z ss ≤ LIM then some (.dat (.str (Txt.join z ss))) else none
  | [.tuple ds] => (strsOf ds).bind fun ss => if joinLen z ss ≤ LIM then some (.dat (.str (Txt.join z ss))) else none
  | _ => none
theorem mt_joinD : MtR X "str.join" (rM X.K joinD) := by
  intro pins s σ H x xs v us Q I rx rs ⟨T, z, ds, a, ez, hx, ht, ho, q⟩
  subst ez
  unfold joinD at ho
  split at ho
  · rw [Option.bind_eq_some_iff] at ho
    obtain ⟨ss, e1, ho⟩ := ho
    split at ho
    · rename_i hl
      cases ho
      cases hx with
      | cons hx hn =>
        cases hn
        obtain ⟨p, ys, rfl, hp, hd⟩ := hx.lst
        cases strsOf_ok hd e1
        refine mt_join pins s σ H _ _ v us Q I rx rs ⟨z, p, ss, rfl, rfl, .inl (SqL.of hp), Nat.le_trans hl (by decide), q _ _ (Ex.refl _) (.str _)⟩
    · cases ho
  · rw [Option.bind_eq_some_iff] at ho
    obtain ⟨ss, e1, ho⟩ := ho
    split at ho
    · rename_i hl
      cases ho
      cases hx with
      | cons hx hn =>
        cases hn
        obtain ⟨p, ys, rfl, hp, hd⟩ := hx.tup
        cases strsOf_ok hd e1
        refine mt_join pins s σ H _ _ v us Q I rx rs ⟨z, p, ss, rfl, rfl, .inr (Evl.ex_t out_ex hp), Nat.le_trans hl (by decide), q _ _ (Ex.refl _) (.str _)⟩
    · cases ho
  · cases ho
def indexD (z : Str) : List D → Option A
  | [.str b] => match Builtin.Str.occurrences z b 0 z.length 1 with
    | i :: _ => some (.dat (.int (i : Nat)))
    | [] => none
  | _ => none
theorem mt_indexD : MtR X "str.index" (rM X.K indexD) := by
  intro pins s σ H x xs v us Q I rx rs ⟨T, z, ds, a, ez, hx, ht, ho, q⟩
  subst ez
  unfold indexD at ho
  split at ho
  · split at ho
    · rename_i i r hoc
      cases ho
      cases hx with
      | cons hx hn =>
        cases hn
        cases hx.str
        exact mt_sindex pins s σ H _ _ v us Q I rx rs ⟨z, _, i, r, rfl, rfl, hoc, q _ _ (Ex.refl _) (.int _)⟩
    · cases ho
  · cases ho
end
end DD
set_option Elab.async false
set_option linter.all false
set_option maxRecDepth 100000
set_option maxHeartbeats 2000000
namespace DD
open PySem PySem.Spec PyProof.Rows L2

/-! ### promises of defs -/
def FROk (K : PySem.W.Frag) (H H' : Hp) (v : V) : A → Prop
  | .dat d => Dd K H' v d ∧ im d = true
  | .tmp ds => ∃ p xs, v = .ref p ∧ H p = none ∧ H' p = some (.lst xs) ∧ DdAll K H' xs ds ∧ imAll ds = true
  | .ref _ => False
/-- data in, data out -/
def spD (K : PySem.W.Frag) (F : List D → Option A) : Sp := fun vs H Q _ => ∃ ds r, DdAll K H vs ds ∧ F ds = some r ∧ ∀ v H', Ex H H' → FROk K H H' v r → Q v H'
/-- the first argument is a list that is changed -/
def spJ (K : PySem.W.Frag) (F : List D → List D → Option (A × List D)) : Sp := fun vs H Q _ => ∃ p vs' xs js ds r js', vs = .ref p :: vs' ∧ H p = some (.lst xs) ∧ DdAll K (out [p] H) xs js ∧ imAll js = true ∧ DdAll K (out [p] H) vs' ds ∧ F js ds = some (r, js') ∧
  ∀ v H', (∀ b o, b ≠ p → H b = some o → H' b = some o) → (∃ xs', H' p = some (.lst xs') ∧ DdAll K (out [p] H') xs' js' ∧ imAll js' = true) → FROk K H H' v r → Q v H'
section
variable {X : Cx} {f g h : DE}
theorem fr_vok {K : PySem.W.Frag} {T : List Addr} {H H' : Hp} {v : V} {r : A} (ht : TL T H') (hn : ∀ p, H p = none → p ∉ T) (h : FROk K H H' v r) : VOk K T H H' v r := by
  cases r with
  | dat d => exact h.1.imOut ht h.2
  | tmp ds => obtain ⟨p, xs, e, n, hp, hd, hi⟩ := h; exact ⟨p, xs, e, n, hn p n, hp, hd.imOut ht hi⟩
  | ref k => exact h.elim
/-! ### calls of defs -/
def dFn (F : List D → Option A) (g : DA) : DE := dCall F g
theorem fn_run {F : List D → Option A} {g : DA} {E : XK} {σ : L2.St} {H : Hp} {Q : VK} (hh : tE X.K (dFn F g) σ H Q) : tCall (spD X.K F) [] E (tA X.K g) σ H Q := by
  obtain ⟨T, sl, io, hR, r, io', e, q⟩ := hh
  unfold dFn dCall at e
  simp only [Option.bind_eq_some_iff, Option.map_eq_some_iff, Prod.exists, Prod.mk.injEq] at e
  obtain ⟨as, io1, e1, ds, e2, r', e3, rfl, rfl⟩ := e
  refine ⟨T, sl, io, hR, as, _, e1, fun vs H1 s1 i1 v1 => ?_⟩
  show spD X.K F (vs ++ []) H1 Q E
  rw [List.append_nil]
  refine ⟨ds, _, (vws_ok i1 v1 e2).dd, e3, fun v H' ex hr => q v H' (s1.trans (Stp.of_ex ex)) (i1.ex ex) ?_⟩
  exact (fr_vok (i1.ex ex).tl (fun p n => i1.fresh n) hr).back s1
theorem pd_fn {CX : CXT} {k : Nat} {fa : Addr} {fd : FuncData} {ps : List Str} {E : XK} {x : Str} {p pos : Pos} {e : Expr} {es : List Expr} {F : List D → Option A} {g : DA} (G : FnOk X.prog X.w X.K X.mg X.base CX k fa fd ps (spD X.K F)) (hr : Room k X.A) (hg : Gl X x) (hm : X.mg x = some (.ref fa)) (hk : PySem.W.keepIn X.K (.ref fa) = true) (hb : Binds X.K fd ps []) (hx : Passes CX X E)
    (ha : PA X (e :: es) (tA X.K g)) (hdb : (x == ("__debug__" : Str)) = false := by decide) (he : starEach (e :: es) X.env = (false, eval e X.env) :: starEach es X.env := by rfl) (hpl : (backTo pos (starEach es X.env)).any (·.1) = false := by rfl) :
    PE X (.Call (.Name x p) (e :: es) [] pos) (tE X.K (dFn F g)) := PE.imp (pe_call G hr hg hm hk hb .nil hx ha hdb he hpl) fun _ _ _ hh => fn_run hh
/-- the views of the other arguments where the list k is given to be changed -/
def vwN (io : IO) (k : Nat) : A → Option D
  | .dat d => some d
  | .tmp ds => some (.list ds)
  | .ref j => if j = k then none else io[j]?.map .list
def vwNs (io : IO) (k : Nat) : List A → Option (List D)
  | [] => some []
  | a :: as => (vwN io k a).bind fun d => (vwNs io k as).map fun ds => d :: ds
section
variable {K : PySem.W.Frag} {T : List Addr} {H H0 : Hp} {io : IO}
theorem out_one {T : List Addr} {H : Hp} {p : Addr} (hp : p ∈ T) : Ex (out T H) (out [p] H) := fun b o h => by
  obtain ⟨n, e⟩ := out_some h
  rw [out_not (by intro z; rw [List.mem_singleton.mp z] at n; exact n hp)]; exact e
theorem vwN_ok (i : IoOk K T io H) {k : Nat} {p : Addr} (hp : T[k]? = some p) {v : V} {a : A} {d : D} (h : VOk K T H0 H v a) (e : vwN io k a = some d) : Dd K (out [p] H) v d := by
  have hm : p ∈ T := List.mem_iff_getElem?.mpr ⟨k, hp⟩
  cases a with
  | dat d' => cases e; exact Dd.mono (out_one hm) h
  | tmp ds =>
    cases e
    obtain ⟨p', xs, rfl, n, nt, hp', hd⟩ := h
    exact .lst (by rw [out_not (by intro z; rw [List.mem_singleton.mp z] at nt; exact nt hm)]; exact hp') (hd.mono (out_one hm))
  | ref j =>
    simp only [vwN] at e
    split at e
    · cases e
    · rename_i hj
      obtain ⟨p', ep, rfl⟩ := h
      obtain ⟨ds, xs, e1, e2, e3, _⟩ := i.at_ j p' ep
      rw [e1] at e
      cases e
      have hne : p' ≠ p := fun z => by
        subst z
        obtain ⟨l1, q1⟩ := List.getElem?_eq_some_iff.mp hp
        obtain ⟨l2, q2⟩ := List.getElem?_eq_some_iff.mp ep
        exact hj ((List.getElem_inj i.nd).mp (q2.trans q1.symm))
      exact .lst (by rw [out_not (by intro z; exact hne (List.mem_singleton.mp z))]; exact e2) (e3.mono (out_one hm))
theorem vwNs_ok (i : IoOk K T io H) {k : Nat} {p : Addr} (hp : T[k]? = some p) : ∀ {vs : List V} {as : List A} {ds : List D}, VOkAll K T H0 H vs as → vwNs io k as = some ds → DdAll K (out [p] H) vs ds
  | _, _, _, .nil, e => by cases e; exact .nil
  | _, _, _, .cons h t, e => by
    unfold vwNs at e
    simp only [Option.bind_eq_some_iff, Option.map_eq_some_iff] at e
    obtain ⟨d, e1, ds, e2, rfl⟩ := e
    exact .cons (vwN_ok i hp h e1) (vwNs_ok i hp t e2)
/-- the list k changed by a callee or a store -/
theorem IoOk.chg (i : IoOk K T io H) {H' : Hp} {k : Nat} {p : Addr} {js : List D} {xs : List V} (hp : T[k]? = some p) (keep : ∀ b o, b ≠ p → H b = some o → H' b = some o) (hn : H' p = some (.lst xs)) (hd : DdAll K H' xs js) (hi : imAll js = true) : IoOk K T (io.set k js) H' ∧ Stp T H H' := by
  have hm : p ∈ T := List.mem_iff_getElem?.mpr ⟨k, hp⟩
  have st : Stp T H H' := ⟨fun b o n e => keep b o (fun z => n (z ▸ hm)) e, fun b e => by
    by_cases z : b = p
    · subst z; rw [hn]; exact fun q => nomatch q
    · cases q : H b with
      | none => exact absurd q e
      | some o => rw [keep b o z q]; exact fun q => nomatch q⟩
  have tl : TL T H' := fun b hb => by
    by_cases z : b = p
    · subst z; exact ⟨xs, hn⟩
    · obtain ⟨ys, e⟩ := i.tl b hb
      exact ⟨ys, keep b _ z e⟩
  refine ⟨⟨i.nd, by rw [List.length_set]; exact i.len, fun j q hq => ?_⟩, st⟩
  by_cases hj : j = k
  · subst hj
    rw [hp] at hq
    cases hq
    have hl : j < io.length := by rw [← i.len]; exact (List.getElem?_eq_some_iff.mp hp).1
    exact ⟨js, xs, by rw [List.getElem?_set_self hl], hn, hd.imOut tl hi, hi⟩
  · obtain ⟨ds, ys, e1, e2, e3, e4⟩ := i.at_ j q hq
    have hne : q ≠ p := fun z => by
      subst z
      obtain ⟨l1, q1⟩ := List.getElem?_eq_some_iff.mp hp
      obtain ⟨l2, q2⟩ := List.getElem?_eq_some_iff.mp hq
      exact hj ((List.getElem_inj i.nd).mp (q2.trans q1.symm))
    exact ⟨ds, ys, by rw [List.getElem?_set_ne (Ne.symm hj)]; exact e1, keep q _ hne e2, e3.mono st.out, e4⟩
end
def dFnJ (F : List D → List D → Option (A × List D)) (g : DA) : DE := fun sl io => (g sl io).bind fun p => match p.1 with
  | .ref k :: as => (p.2[k]?).bind fun js => (vwNs p.2 k as).bind fun ds => (F js ds).map fun r => (r.1, p.2.set k r.2)
  | _ => none
theorem fnJ_run {F : List D → List D → Option (A × List D)} {g : DA} {E : XK} {σ : L2.St} {H : Hp} {Q : VK} (hh : tE X.K (dFnJ F g) σ H Q) : tCall (spJ X.K F) [] E (tA X.K g) σ H Q := by
  obtain ⟨T, sl, io, hR, r, io', e, q⟩ := hh
  unfold dFnJ at e
  simp only [Option.bind_eq_some_iff, Prod.exists] at e
  obtain ⟨as, io1, e1, e2⟩ := e
  split at e2
  · rename_i k as'
    simp only [Option.bind_eq_some_iff, Option.map_eq_some_iff, Prod.exists, Prod.mk.injEq] at e2
    obtain ⟨js, e3, ds, e4, r', js', e5, rfl, rfl⟩ := e2
    refine ⟨T, sl, io, hR, _, _, e1, fun vs H1 s1 i1 v1 => ?_⟩
    show spJ X.K F (vs ++ []) H1 Q E
    rw [List.append_nil]
    cases v1 with
    | cons hv ht =>
      obtain ⟨p, hp, rfl⟩ := hv
      obtain ⟨js2, xs, q1, q2, q3, q4⟩ := i1.at_ k p hp
      rw [e3] at q1
      cases q1
      have hm : p ∈ T := List.mem_iff_getElem?.mpr ⟨k, hp⟩
      refine ⟨p, _, xs, js, ds, _, js', rfl, q2, q3.mono (out_one hm), q4, vwNs_ok i1 hp ht e4, e5, fun v H' keep hj hr => ?_⟩
      obtain ⟨xs', w1, w2, w3⟩ := hj
      obtain ⟨i2, s2⟩ := i1.chg hp keep w1 (w2.mono out_ex) w3
      exact q v H' (s1.trans s2) i2 ((fr_vok i2.tl (fun p n => i1.fresh n) hr).back s1)
  · cases e2
theorem pd_fnJ {CX : CXT} {k : Nat} {fa : Addr} {fd : FuncData} {ps : List Str} {E : XK} {x : Str} {p pos : Pos} {e : Expr} {es : List Expr} {F : List D → List D → Option (A × List D)} {g : DA} (G : FnOk X.prog X.w X.K X.mg X.base CX k fa fd ps (spJ X.K F)) (hr : Room k X.A) (hg : Gl X x) (hm : X.mg x = some (.ref fa)) (hk : PySem.W.keepIn X.K (.ref fa) = true) (hb : Binds X.K fd ps []) (hx : Passes CX X E)
    (ha : PA X (e :: es) (tA X.K g)) (hdb : (x == ("__debug__" : Str)) = false := by decide) (he : starEach (e :: es) X.env = (false, eval e X.env) :: starEach es X.env := by rfl) (hpl : (backTo pos (starEach es X.env)).any (·.1) = false := by rfl) :
    PE X (.Call (.Name x p) (e :: es) [] pos) (tE X.K (dFnJ F g)) := PE.imp (pe_call G hr hg hm hk hb .nil hx ha hdb he hpl) fun _ _ _ hh => fnJ_run hh
/-! keywords alone -/
theorem pe_callK0 {CX : CXT} {k : Nat} {fa : Addr} {fd : FuncData} {ps ks : List Str} {sp : Sp} {E : XK} {x : Str} {p pos : Pos} {kws : List Keyword} {tk : TA} {gg : List Value → List Value → List Value} {gV : List V → List V → List V} (F : FnOk X.prog X.w X.K X.mg X.base CX k fa fd ps sp) (hr : Room k X.A) (hg : Gl X x) (hm : X.mg x = some (.ref fa)) (hk : PySem.W.keepIn X.K (.ref fa) = true) (hb : KBinds X.K fd ps ks gg gV) (hx : Passes CX X E)
    (hkw : PK X kws tk) (hall : (backToKw pos (keywordEach kws X.env)).all (·.1.isSome) = true := by rfl) (hks : (backToKw pos (keywordEach kws X.env)).filterMap (·.1) = ks := by rfl)
    (hdb : (x == ("__debug__" : Str)) = false := by decide) (hpl : ((backTo pos (starEach [] X.env)).any (·.1) || (backToKw pos (keywordEach kws X.env)).any (·.1.isNone)) = false := by rfl) :
    PE X (.Call (.Name x p) [] kws pos) (tCallK sp gV E tNil tk) := by
  refine ⟨fun pins s σ H Q I h => ?_⟩
  refine wpAny_Call_Name_kw (ld_glob I hg hm ?_ hdb)
  have h' : tk σ H fun zs H2 => sp (gV [] zs) H2 Q E := h
  refine PySem.W.callWith_KW0 (h₀ := X.base) I.ok.mod.kin hk hall (thn (hkw.run pos pins s σ H _ I h') fun ws s2 ⟨zs, H2, I2, rz, q2⟩ => ⟨I2.kIn, ?_⟩) hpl
  rw [hks]
  exact run_fnk F hr hb hx I2 .nil rz q2
theorem PK.imp {kws : List Keyword} {t t' : TA} (h : PK X kws t) (hi : ∀ σ H Q, t' σ H Q → t σ H Q) : PK X kws t' := ⟨fun pos pins s σ H Q I q => h.run pos pins s σ H Q I (hi σ H Q q)⟩
theorem pdk_nil : PK X [] (tA X.K dNil) := PK.imp pk_nil fun σ H Q hh => by
  obtain ⟨T, sl, io, hR, b, io', e, q⟩ := hh
  cases e
  exact q [] H (Stp.refl _ _) hR.io .nil
theorem pdk_cons {e : Expr} {kws : List Keyword} {nm : Option Str} {kpos : Pos} {g : DA} (ha : PE X e (tE X.K f)) (hr : PK X kws (tA X.K g)) : PK X (⟨nm, e, kpos⟩ :: kws) (tA X.K (dCons f g)) := PK.imp (pk_cons ha hr) fun σ H Q hh => by
  obtain ⟨T, sl, io, hR, b, io', e, q⟩ := hh
  unfold dCons at e
  simp only [Option.bind_eq_some_iff, Option.map_eq_some_iff, Prod.exists, Prod.mk.injEq] at e
  obtain ⟨a, io1, e1, as, io2, e2, rfl, rfl⟩ := e
  exact one hR e1 fun x H1 s1 i1 v1 => ⟨T, sl, io1, hR.step s1 i1, as, io2, e2, fun vs H2 s2 i2 v2 => q _ H2 (s1.trans s2) i2 (.cons (v1.mono s2) (v2.back s1))⟩
/-- the values of keywords alone, in the parameters' order -/
def kw1 {α : Type} : List α → List α → List α
  | [], ws => ws
  | _, _ => []
def flip2 {α : Type} : List α → List α
  | [a, b] => [b, a]
  | l => l
def kw2 {α : Type} : List α → List α → List α
  | [], ws => flip2 ws
  | _, _ => []
/-- keywords in the parameters' order -/
theorem pd_fnK1 {CX : CXT} {k : Nat} {fa : Addr} {fd : FuncData} {ps ks : List Str} {E : XK} {x : Str} {p pos : Pos} {kws : List Keyword} {F : List D → Option A} {g : DA} (G : FnOk X.prog X.w X.K X.mg X.base CX k fa fd ps (spD X.K F)) (hr : Room k X.A) (hg : Gl X x) (hm : X.mg x = some (.ref fa)) (hk : PySem.W.keepIn X.K (.ref fa) = true) (hb : KBinds X.K fd ps ks kw1 kw1) (hx : Passes CX X E)
    (hkw : PK X kws (tA X.K g)) (hall : (backToKw pos (keywordEach kws X.env)).all (·.1.isSome) = true := by rfl) (hks : (backToKw pos (keywordEach kws X.env)).filterMap (·.1) = ks := by rfl)
    (hdb : (x == ("__debug__" : Str)) = false := by decide) (hpl : ((backTo pos (starEach [] X.env)).any (·.1) || (backToKw pos (keywordEach kws X.env)).any (·.1.isNone)) = false := by rfl) :
    PE X (.Call (.Name x p) [] kws pos) (tE X.K (dFn F g)) := PE.imp (pe_callK0 G hr hg hm hk hb hx hkw hall hks hdb hpl) fun σ H Q hh => by
  have := fn_run (E := E) hh
  unfold tCall at this
  simp only [List.append_nil] at this
  exact this
/-- two keywords, the two parameters the other way round -/
def dFlip (g : DA) : DA := fun sl io => (g sl io).map fun p => (flip2 p.1, p.2)
theorem VOkAll.flip {K : PySem.W.Frag} {T : List Addr} {H H' : Hp} : ∀ {vs : List V} {as : List A}, VOkAll K T H H' vs as → VOkAll K T H H' (flip2 vs) (flip2 as)
  | _, _, .nil => .nil
  | _, _, .cons h .nil => .cons h .nil
  | _, _, .cons h (.cons h2 .nil) => .cons h2 (.cons h .nil)
  | _, _, .cons h (.cons h2 (.cons h3 t)) => .cons h (.cons h2 (.cons h3 t))
theorem Vals.flip2 : ∀ {vs : List V} {us : List Value}, Vals vs us → Vals (flip2 vs) (flip2 us)
  | _, _, .nil => .nil
  | _, _, .cons h .nil => .cons h .nil
  | _, _, .cons h (.cons h2 .nil) => .cons h2 (.cons h .nil)
  | _, _, .cons h (.cons h2 (.cons h3 t)) => .cons h (.cons h2 (.cons h3 t))
theorem Vals.kw1 : ∀ {vs : List V} {us : List Value} {zs : List V} {ws : List Value}, Vals vs us → Vals zs ws → Vals (kw1 vs zs) (kw1 us ws)
  | _, _, _, _, .nil, h => h
  | _, _, _, _, .cons _ _, _ => .nil
theorem Vals.kw2 : ∀ {vs : List V} {us : List Value} {zs : List V} {ws : List Value}, Vals vs us → Vals zs ws → Vals (kw2 vs zs) (kw2 us ws)
  | _, _, _, _, .nil, h => Vals.flip2 h
  | _, _, _, _, .cons _ _, _ => .nil
theorem pd_fnK2 {CX : CXT} {k : Nat} {fa : Addr} {fd : FuncData} {ps ks : List Str} {E : XK} {x : Str} {p pos : Pos} {kws : List Keyword} {F : List D → Option A} {g : DA} (G : FnOk X.prog X.w X.K X.mg X.base CX k fa fd ps (spD X.K F)) (hr : Room k X.A) (hg : Gl X x) (hm : X.mg x = some (.ref fa)) (hk : PySem.W.keepIn X.K (.ref fa) = true) (hb : KBinds X.K fd ps ks kw2 kw2) (hx : Passes CX X E)
    (hkw : PK X kws (tA X.K g)) (hall : (backToKw pos (keywordEach kws X.env)).all (·.1.isSome) = true := by rfl) (hks : (backToKw pos (keywordEach kws X.env)).filterMap (·.1) = ks := by rfl)
    (hdb : (x == ("__debug__" : Str)) = false := by decide) (hpl : ((backTo pos (starEach [] X.env)).any (·.1) || (backToKw pos (keywordEach kws X.env)).any (·.1.isNone)) = false := by rfl) :
    PE X (.Call (.Name x p) [] kws pos) (tE X.K (dFn F (dFlip g))) := PE.imp (pe_callK0 G hr hg hm hk hb hx hkw hall hks hdb hpl) fun σ H Q hh => by
  have := fn_run (E := E) hh
  unfold tCall at this
  simp only [List.append_nil] at this
  obtain ⟨T, sl, io, hR, b, io', e, q⟩ := this
  unfold dFlip at e
  simp only [Option.map_eq_some_iff, Prod.exists, Prod.mk.injEq] at e
  obtain ⟨as, io1, e1, rfl, rfl⟩ := e
  exact ⟨T, sl, io, hR, as, _, e1, fun vs H' s i v => q _ H' s i v.flip⟩

/-! ### statements -/
def dNext : DS := fun sl io => some (.nx sl io)
def dSeq (f g : DS) : DS := fun sl io => (f sl io).bind fun r => match r with
  | .nx sl' io' => g sl' io'
  | r => some r
theorem pds_nil : PSs X [] (tS X.K dNext) := PSs.imp pss_nil fun D σ H hh => by
  obtain ⟨T, sl, io, hR, r, e, q⟩ := hh
  cases e
  exact q T σ H hR (Fr.refl _ _)
theorem pds_cons {st : Stmt} {rest : List Stmt} {f g : DS} (h1 : PS X st (tS X.K f)) (h2 : PSs X rest (tS X.K g)) : PSs X (st :: rest) (tS X.K (dSeq f g)) := PSs.imp (pss_cons h1 h2) fun D σ H hh => by
  obtain ⟨T, sl, io, hR, r, e, q⟩ := hh
  unfold dSeq at e
  rw [Option.bind_eq_some_iff] at e
  obtain ⟨r1, e1, e2⟩ := e
  refine ⟨T, sl, io, hR, r1, e1, ?_⟩
  cases r1 with
  | nx sl' io' => exact fun T' σ' H' hr hf => ⟨T', sl', io', hr, r, e2, q.fr hf⟩
  | bk sl' io' => cases e2; exact q
  | ct sl' io' => cases e2; exact q
  | rt a io' => cases e2; exact q
theorem pds_one {st : Stmt} {f : DS} (h1 : PS X st (tS X.K f)) : PSs X [st] (tS X.K f) := PSs.imp (pss_one h1) fun _ _ _ hh => hh
def dIf (t : DT) (f g : DS) : DS := fun sl io => (t sl io).bind fun p => if p.1 then f sl p.2 else g sl p.2
theorem pds_if {c : Expr} {a b : List Stmt} {t : DT} {f g : DS} {pos : Pos} (hc : PT X c (tT X.K t)) (ha : PSs X a (tS X.K f)) (hb : PSs X b (tS X.K g)) : PS X (.If c a b pos) (tS X.K (dIf t f g)) := PS.imp (ps_if hc ha hb) fun D σ H hh => by
  obtain ⟨T, sl, io, hR, r, e, q⟩ := hh
  unfold dIf at e
  simp only [Option.bind_eq_some_iff, Prod.exists] at e
  obtain ⟨c, io1, e1, e2⟩ := e
  refine ⟨T, sl, io, hR, c, io1, e1, fun H1 s1 i1 => ?_⟩
  cases c with
  | true => exact ⟨T, sl, io1, hR.step s1 i1, r, e2, q.fr (Fr.of_stp s1)⟩
  | false => exact ⟨T, sl, io1, hR.step s1 i1, r, e2, q.fr (Fr.of_stp s1)⟩
def dRet (f : DE) : DS := fun sl io => (f sl io).map fun p => .rt p.1 p.2
theorem pds_ret {e : Expr} {pos : Pos} (he : PE X e (tE X.K f)) : PS X (.Return (some e) pos) (tS X.K (dRet f)) := PS.imp (ps_ret he) fun D σ H hh => by
  obtain ⟨T, sl, io, hR, r, e, q⟩ := hh
  unfold dRet at e
  simp only [Option.map_eq_some_iff, Prod.exists] at e
  obtain ⟨a, io1, e1, rfl⟩ := e
  exact one hR e1 fun x H1 s1 i1 v1 => q T x H1 i1 (Fr.of_stp s1) v1
def dRetN : DS := fun _ io => some (.rt (.dat .none) io)
theorem pds_retN {pos : Pos} : PS X (.Return none pos) (tS X.K dRetN) := PS.imp ps_retN fun D σ H hh => by
  obtain ⟨T, sl, io, hR, r, e, q⟩ := hh
  cases e
  exact q T .non H hR.io (Fr.refl _ _) .non
def dBreak : DS := fun sl io => some (.bk sl io)
def dCont : DS := fun sl io => some (.ct sl io)
def dStuck : DS := fun _ _ => none
theorem pds_break {pos : Pos} : PS X (.Break pos) (tS X.K dBreak) := PS.imp ps_break fun D σ H hh => by
  obtain ⟨T, sl, io, hR, r, e, q⟩ := hh
  cases e
  exact q T σ H hR (Fr.refl _ _)
theorem pds_cont {pos : Pos} : PS X (.Continue pos) (tS X.K dCont) := PS.imp ps_continue fun D σ H hh => by
  obtain ⟨T, sl, io, hR, r, e, q⟩ := hh
  cases e
  exact q T σ H hR (Fr.refl _ _)
theorem pds_pass {pos : Pos} : PS X (.Pass pos) (tS X.K dNext) := PS.imp ps_pass fun D σ H hh => by
  obtain ⟨T, sl, io, hR, r, e, q⟩ := hh
  cases e
  exact q T σ H hR (Fr.refl _ _)
theorem pds_stuck {st : Stmt} : PS X st (tS X.K dStuck) := PS.imp ps_never fun D σ H hh => by
  obtain ⟨T, sl, io, hR, r, e, q⟩ := hh
  cases e
/-- f(..) alone -/
def dDrop (f : DE) : DS := fun sl io => (f sl io).map fun p => .nx sl p.2
theorem pds_drop {e : Expr} {pos : Pos} (he : PE X e (tE X.K f)) (hs : swapsWith e none pos.line X.env = pure false := by rfl) : PS X (.Expr e pos) (tS X.K (dDrop f)) := PS.imp (ps_expr he hs) fun D σ H hh => by
  obtain ⟨T, sl, io, hR, r, e, q⟩ := hh
  unfold dDrop at e
  simp only [Option.map_eq_some_iff, Prod.exists] at e
  obtain ⟨a, io1, e1, rfl⟩ := e
  exact one hR e1 fun x H1 s1 i1 v1 => q T σ H1 (hR.step s1 i1) (Fr.of_stp s1)
/-! x = e -/
def slotOf : A → S
  | .dat d => .dat d
  | .tmp ds => .dat (.list ds)
  | .ref k => .ref k
theorem Rel.set {K : PySem.W.Frag} {T : List Addr} {σ : L2.St} {sl : List S} {io : IO} {H : Hp} (h : Rel K T σ sl io H) (i : Nat) {v : V} {s : S} (hs : SOk K T H (some (some v)) s) : Rel K T (σ.set i (some v)) (sl.set i s) io H := by
  refine ⟨by rw [List.length_set, List.length_set]; exact h.len, fun j sj e => ?_, h.io⟩
  by_cases hj : i = j
  · subst hj
    have hl : i < (sl.set i s).length := (List.getElem?_eq_some_iff.mp e).1
    rw [List.length_set] at hl
    rw [List.getElem?_set_self hl] at e
    cases e
    rw [List.getElem?_set_self (by rw [h.len]; exact hl)]
    exact hs
  · rw [List.getElem?_set_ne hj] at e
    rw [List.getElem?_set_ne hj]
    exact h.slot j sj e
theorem slotOf_ok {K : PySem.W.Frag} {T : List Addr} {H H' : Hp} {v : V} {a : A} (h : VOk K T H H' v a) : SOk K T H' (some (some v)) (slotOf a) := by
  cases a with
  | dat d => exact ⟨v, rfl, h⟩
  | tmp ds => obtain ⟨p, xs, rfl, n, nt, hp, hd⟩ := h; exact ⟨_, rfl, .lst (by rw [out_not nt]; exact hp) hd⟩
  | ref k => obtain ⟨p, ep, rfl⟩ := h; exact ⟨p, ep, rfl⟩
def dSet (i : Nat) (f : DE) : DS := fun sl io => (f sl io).map fun p => .nx (sl.set i (slotOf p.1)) p.2
theorem set_run {i : Nat} {D : Ends} {σ : L2.St} {H : Hp} (hh : tS X.K (dSet i f) D σ H) : tAsg (tE X.K f) (gName i) D σ H := by
  obtain ⟨T, sl, io, hR, r, e, q⟩ := hh
  unfold dSet at e
  simp only [Option.map_eq_some_iff, Prod.exists] at e
  obtain ⟨a, io1, e1, rfl⟩ := e
  exact one hR e1 fun x H1 s1 i1 v1 => q T _ H1 ((hR.step s1 i1).set i (slotOf_ok v1)) (Fr.of_stp s1)
/-- x = a new list, which x may change -/
def dOwn (i : Nat) (f : DE) : DS := fun sl io => (f sl io).bind fun p => match p.1 with
  | .tmp ds => if imAll ds = true then some (.nx (sl.set i (.ref p.2.length)) (p.2 ++ [ds])) else none
  | a => some (.nx (sl.set i (slotOf a)) p.2)
theorem Rel.grow {K : PySem.W.Frag} {T : List Addr} {σ : L2.St} {sl : List S} {io io1 : IO} {H H1 : Hp} {p : Addr} {xs : List V} {ds : List D} (hR : Rel K T σ sl io H) (s1 : Stp T H H1) (i1 : IoOk K T io1 H1) (n : H p = none) (nt : p ∉ T) (hp : H1 p = some (.lst xs)) (hd : DdAll K (out T H1) xs ds) (hi : imAll ds = true) :
    Rel K (T ++ [p]) σ sl (io1 ++ [ds]) H1 ∧ Fr T H (T ++ [p]) H1 := by
  have tl : TL (T ++ [p]) H1 := fun b hb => by
    rcases List.mem_append.mp hb with z | z
    · exact i1.tl b z
    · rw [List.mem_singleton.mp z]; exact ⟨xs, hp⟩
  have ext : Ex (out T H) (out (T ++ [p]) H1) := fun b o e => by
    obtain ⟨nb, e'⟩ := out_some e
    have : b ∉ T ++ [p] := fun z => by
      rcases List.mem_append.mp z with z | z
      · exact nb z
      · rw [List.mem_singleton.mp z] at e'; rw [n] at e'; cases e'
    rw [out_not this]; exact s1.keep b o nb e'
  refine ⟨⟨hR.len, fun j sj e => ?_, ⟨?_, ?_, fun k q hq => ?_⟩⟩, ⟨⟨[p], rfl⟩, fun b hb => ?_, s1.keep, s1.there⟩⟩
  · have h := hR.slot j sj e
    cases sj with
    | un => trivial
    | dat d => obtain ⟨v, e1, h1⟩ := h; exact ⟨v, e1, h1.mono ext⟩
    | ref k =>
      obtain ⟨p', e1, h1⟩ := h
      exact ⟨p', by rw [List.getElem?_append_left (List.getElem?_eq_some_iff.mp e1).1]; exact e1, h1⟩
    | scr ns => obtain ⟨a, e1, h1⟩ := h; exact ⟨a, e1, Evl.ex_l ext h1⟩
  · rw [List.nodup_append]
    exact ⟨i1.nd, by simp, fun a ha b hb => by rw [List.mem_singleton.mp hb]; exact fun z => nt (z ▸ ha)⟩
  · rw [List.length_append, List.length_append, i1.len]; rfl
  · by_cases hk : k < T.length
    · rw [List.getElem?_append_left hk] at hq
      obtain ⟨es, ys, e1, e2, e3, e4⟩ := i1.at_ k q hq
      exact ⟨es, ys, by rw [List.getElem?_append_left (by rw [← i1.len]; exact hk)]; exact e1, e2, (e3.mono out_ex).imOut tl e4, e4⟩
    · have hl := (List.getElem?_eq_some_iff.mp hq).1
      rw [List.length_append, List.length_singleton] at hl
      have hk' : k = T.length := by omega
      subst hk'
      rw [List.getElem?_append_right (Nat.le_refl _), Nat.sub_self] at hq
      cases hq
      exact ⟨ds, xs, by rw [i1.len, List.getElem?_append_right (Nat.le_refl _), Nat.sub_self]; rfl, hp, (hd.mono out_ex).imOut tl hi, hi⟩
  · rcases List.mem_append.mp hb with z | z
    · exact .inl z
    · rw [List.mem_singleton.mp z]; exact .inr n
theorem own_run {i : Nat} {D : Ends} {σ : L2.St} {H : Hp} (hh : tS X.K (dOwn i f) D σ H) : tAsg (tE X.K f) (gName i) D σ H := by
  obtain ⟨T, sl, io, hR, r, e, q⟩ := hh
  unfold dOwn at e
  simp only [Option.bind_eq_some_iff, Prod.exists] at e
  obtain ⟨a, io1, e1, e2⟩ := e
  split at e2
  · rename_i ds
    split at e2
    · rename_i hi
      cases e2
      refine one hR e1 fun x H1 s1 i1 v1 => ?_
      obtain ⟨p, xs, rfl, n, nt, hp, hd⟩ := v1
      obtain ⟨hR2, hf⟩ := hR.grow s1 i1 n nt hp hd hi
      exact q _ _ H1 (hR2.set i ⟨p, by rw [← i1.len, List.getElem?_append_right (Nat.le_refl _), Nat.sub_self]; rfl, rfl⟩) hf
    · cases e2
  · cases e2
    exact one hR e1 fun x H1 s1 i1 v1 => q T _ H1 ((hR.step s1 i1).set i (slotOf_ok v1)) (Fr.of_stp s1)
theorem pds_set {i : Nat} {st : Stmt} (h : PS X st (tAsg (tE X.K f) (gName i))) : PS X st (tS X.K (dSet i f)) := PS.imp h fun _ _ _ hh => set_run hh
theorem pds_own {i : Nat} {st : Stmt} (h : PS X st (tAsg (tE X.K f) (gName i))) : PS X st (tS X.K (dOwn i f)) := PS.imp h fun _ _ _ hh => own_run hh
/-! a, b = e -/
def gNm : List Nat → TGs
  | [] => gNil
  | i :: r => gCons (gName i) (gNm r)
def setAll : List Nat → List D → List S → List S
  | i :: r, d :: ds, sl => setAll r ds (sl.set i (.dat d))
  | _, _, sl => sl
theorem gNm_run {K : PySem.W.Frag} {T : List Addr} {io : IO} {H : Hp} {Q : L2.St → Hp → Prop} : ∀ (is : List Nat) (vs : List V) (ds : List D) (σ : L2.St) (sl : List S), Rel K T σ sl io H → DdAll K (out T H) vs ds → is.length = ds.length → (∀ σ', Rel K T σ' (setAll is ds sl) io H → Q σ' H) → gNm is vs σ H Q
  | [], _, [], σ, sl, hR, .nil, _, q => ⟨rfl, q σ hR⟩
  | i :: is, _, d :: ds, σ, sl, hR, .cons h t, e, q => ⟨_, _, rfl, gNm_run is _ ds _ _ (hR.set i (s := .dat d) ⟨_, rfl, h⟩) t (by simpa using e) q⟩
  | [], _, _ :: _, _, _, _, _, e, _ => by simp at e
  | _ :: _, _, [], _, _, _, _, e, _ => by simp at e
/-- a target: a name, or names in a tuple -/
inductive Tg where
  | one (i : Nat)
  | many (is : List Nat)
def tgGo : Tg → D → List S → Option (List S)
  | .one i, d, sl => some (sl.set i (.dat d))
  | .many is, .tuple ds, sl => if is.length = ds.length then some (setAll is ds sl) else none
  | _, _, _ => none
def gTg (K : PySem.W.Frag) : Tg → TG
  | .one i => gName i
  | .many is => gTup K is.length (gNm is)
theorem tg_run {K : PySem.W.Frag} {T : List Addr} {io : IO} {H : Hp} {Q : L2.St → Hp → Prop} {tg : Tg} {v : V} {d : D} {σ : L2.St} {sl sl' : List S} (hR : Rel K T σ sl io H) (hd : Dd K (out T H) v d) (e : tgGo tg d sl = some sl') (q : ∀ σ', Rel K T σ' sl' io H → Q σ' H) : gTg K tg v σ H Q := by
  cases tg with
  | one i =>
    cases e
    exact q _ (hR.set i ⟨v, rfl, hd⟩)
  | many is =>
    cases d with
    | tuple ds =>
      simp only [tgGo] at e
      split at e
      · rename_i hl
        cases e
        cases hd with
        | tup h1 h2 => exact ⟨_, _, rfl, Evl.ex_t out_ex h1, by rw [h2.length]; exact hl.symm, gNm_run is _ ds σ sl hR h2 hl q⟩
      · cases e
    | _ => cases e
def dUnp (tg : Tg) (f : DE) : DS := fun sl io => (f sl io).bind fun p => (vwI p.1).bind fun d => (tgGo tg d sl).map fun sl' => .nx sl' p.2
theorem pds_unp {tg e : Expr} {t : Tg} {pos : Pos} (he : PE X e (tE X.K f)) (hg : PG X tg (gTg X.K t)) (hs : swapsWithSole [tg] e pos.line X.env = pure false := by rfl) (hw : swappedStores [tg] e X.env = pure none := by rfl)
    (h1 : (assignEach [tg] X.env).map (·.2) = [assign tg X.env] := by rfl) : PS X (.Assign [tg] e pos) (tS X.K (dUnp t f)) := PS.imp (ps_asg he hg hs hw h1) fun D σ H hh => by
  obtain ⟨T, sl, io, hR, r, e, q⟩ := hh
  unfold dUnp at e
  simp only [Option.bind_eq_some_iff, Option.map_eq_some_iff, Prod.exists] at e
  obtain ⟨a, io1, e1, d, e2, sl', e3, rfl⟩ := e
  refine one hR e1 fun x H1 s1 i1 v1 => ?_
  exact tg_run (hR.step s1 i1) (vwI_ok v1 e2) e3 fun σ' hr => q T σ' H1 hr (Fr.of_stp s1)
/-! x.append(e), x[i] = e -/
theorem Rel.chg {K : PySem.W.Frag} {T : List Addr} {σ : L2.St} {sl : List S} {io : IO} {H : Hp} {k : Nat} {p : Addr} {js : List D} {xs : List V} (hR : Rel K T σ sl io H) (hp : T[k]? = some p) (h0 : H p ≠ none) (hd : DdAll K (out T H) xs js) (hi : imAll js = true) :
    Rel K T σ sl (io.set k js) (upd H p (.lst xs)) ∧ Stp T H (upd H p (.lst xs)) := by
  have hm : p ∈ T := List.mem_iff_getElem?.mpr ⟨k, hp⟩
  obtain ⟨i2, s2⟩ := hR.io.chg (H' := upd H p (.lst xs)) (xs := xs) (js := js) hp (fun b o n e => by rw [upd_ne n]; exact e) upd_same (hd.mono (fun b o e => by
    obtain ⟨nb, e'⟩ := out_some e
    rw [upd_ne (fun z => nb (by rw [z]; exact hm))]; exact e')) hi
  exact ⟨hR.step s2 i2, s2⟩
theorem imAll_append : ∀ {a b : List D}, imAll (a ++ b) = (imAll a && imAll b)
  | [], b => by simp [imAll]
  | x :: a, b => by simp [imAll, imAll_append (a := a) (b := b), Bool.and_assoc]
def dApp (i : Nat) (f : DE) : DS := fun sl io => match sl[i]? with
  | some (.ref k) => (f sl io).bind fun p => match p.1 with
    | .dat d => (p.2[k]?).bind fun js => if im d = true ∧ js.length < LIM then some (.nx sl (p.2.set k (js ++ [d]))) else none
    | _ => none
  | _ => none
theorem imAll_set : ∀ {a : List D} {i : Nat} {d : D}, imAll a = true → im d = true → imAll (a.set i d) = true
  | [], _, _, h, _ => h
  | x :: a, 0, d, h, h2 => by
    rw [imAll, Bool.and_eq_true] at h
    show imAll (d :: a) = true
    rw [imAll, h2, h.2]; rfl
  | x :: a, i + 1, d, h, h2 => by
    rw [imAll, Bool.and_eq_true] at h
    show imAll (x :: a.set i d) = true
    rw [imAll, h.1, imAll_set h.2 h2]; rfl
theorem pds_app {i : Nat} {o e : Expr} {apos cpos pos : Pos} (ho : PE X o (tVar i)) (he : PE X e (tE X.K f))
    (hbase : attributeBase o "append" X.env (eval o X.env) = eval o X.env := by rfl)
    (hfew : ((backTo cpos (starEach [e] X.env)).all (fun x => !x.1) && (backToKw cpos (keywordEach [] X.env)).all (fun x => x.1.isSome)
      && decide (([e] : List Expr).length + ([] : List Keyword).length + (if ([] : List Keyword).isEmpty then 0 else 1) < 30)) = true := by rfl)
    (hline : (apos.endLine == cpos.line) = true := by rfl) (hs : starEach [e] X.env = (false, eval e X.env) :: starEach [] X.env := by rfl) (hplain : (backTo cpos (starEach [] X.env)).any (·.1) = false := by rfl)
    (hsw : swapsWith (.Call (.Attribute o "append" apos) [e] [] cpos) none pos.line X.env = pure false := by rfl) :
    PS X (.Expr (.Call (.Attribute o "append" apos) [e] [] cpos) pos) (tS X.K (dApp i f)) := by
  refine PS.imp (ps_expr (pe_bm PySem.F.plainAttrs_list PySem.F.slot_list_append PySem.F.type_list_append mt_append ho (pa_cons he pa_nil hs) hbase hfew hline hs hplain) hsw) fun D σ H hh => ?_
  obtain ⟨T, sl, io, hR, r, e, q⟩ := hh
  unfold dApp at e
  split at e
  · rename_i k hs
    obtain ⟨p, ep, ev⟩ := hR.slot i _ hs
    obtain ⟨js0, xs0, q1, q2, q3, q4⟩ := hR.io.at_ k p ep
    simp only [Option.bind_eq_some_iff, Prod.exists] at e
    obtain ⟨a, io1, e1, e2⟩ := e
    split at e2
    · rename_i d
      simp only [Option.bind_eq_some_iff] at e2
      obtain ⟨js, e3, e4⟩ := e2
      split at e4
      · rename_i hc
        cases e4
        refine ⟨_, ev, .inl ⟨rfl, xs0, SqL.of q2⟩, ?_⟩
        refine one hR e1 fun x H1 s1 i1 v1 => ?_
        obtain ⟨js1, xs1, w1, w2, w3, w4⟩ := i1.at_ k p ep
        rw [e3] at w1; cases w1
        have hR1 := hR.step s1 i1
        obtain ⟨hR2, s2⟩ := hR1.chg (xs := xs1 ++ [x]) (js := js ++ [d]) ep (by rw [w2]; exact fun z => nomatch z) (w3.append (.cons v1 .nil)) (by rw [imAll_append, w4]; simp [imAll, hc.1])
        refine ⟨p, xs1, x, rfl, rfl, w2, ?_, q T σ _ hR2 (Fr.of_stp (s1.trans s2))⟩
        rw [w3.length]
        have := hc.2
        unfold LIM at this
        rw [sizeLine_eq]; omega
      · cases e4
    · cases e2
  · cases e
def dPut (fo fi fv : DE) : DS := fun sl io => (fv sl io).bind fun p => (fo sl p.2).bind fun q => (fi sl q.2).bind fun z => match p.1, q.1, z.1 with
  | .dat d, .ref k, .dat (.int i) => (z.2[k]?).bind fun js => (ixN js.length i).bind fun j => if im d = true then some (.nx sl (z.2.set k (js.set j d))) else none
  | _, _, _ => none
theorem pds_put {o i e : Expr} {fo fi fv : DE} {pos spos : Pos} (ho : PE X o (tE X.K fo)) (hi : PE X i (tE X.K fi)) (he : PE X e (tE X.K fv))
    (ha : ∀ v, assign (.Subscript o i pos) X.env v = (do
      let ov ← holding [v] (eval o X.env)
      let iv ← holding [v, ov] (eval i X.env)
      standAt pos
      holding [v, ov, iv] (setItem ov iv v)
      release [v, ov, iv] []) := by intro _; rfl)
    (hs : swapsWithSole [.Subscript o i pos] e spos.line X.env = pure false := by rfl) (hw : swappedStores [.Subscript o i pos] e X.env = pure none := by rfl)
    (h1 : (assignEach [.Subscript o i pos] X.env).map (·.2) = [assign (.Subscript o i pos) X.env] := by rfl) : PS X (.Assign [.Subscript o i pos] e spos) (tS X.K (dPut fo fi fv)) := by
  refine PS.imp (ps_asg he (pg_sub ho hi set_list ha) hs hw h1) fun D σ H hh => ?_
  obtain ⟨T, sl, io, hR, r, e, q⟩ := hh
  unfold dPut at e
  simp only [Option.bind_eq_some_iff, Prod.exists] at e
  obtain ⟨a, io1, e1, b, io2, e2, c, io3, e3, e4⟩ := e
  split at e4
  · rename_i d k ii
    simp only [Option.bind_eq_some_iff] at e4
    obtain ⟨js, e5, j, e6, e7⟩ := e4
    split at e7
    · rename_i hd
      cases e7
      refine one hR e1 fun x H1 s1 i1 v1 => ?_
      refine one (hR.step s1 i1) e2 fun y H2 s2 i2 v2 => ?_
      refine one (hR.step (s1.trans s2) i2) e3 fun z H3 s3 i3 v3 => ?_
      obtain ⟨p, ep, rfl⟩ := v2
      have v3' := VwOk.int (.inl v3)
      subst v3'
      obtain ⟨js1, xs1, w1, w2, w3, w4⟩ := i3.at_ k p ep
      rw [e5] at w1; cases w1
      have v1' : Dd X.K (out T H3) x d := Dd.mono (s2.trans s3).out v1
      have s0 := (s1.trans s2).trans s3
      obtain ⟨hR2, s4⟩ := (hR.step s0 i3).chg (xs := xs1.set j x) (js := js.set j d) ep (by rw [w2]; exact fun z => nomatch z) (w3.set v1' j) (imAll_set w4 hd)
      refine ⟨p, xs1, _, j, rfl, rfl, w2, by rw [ixN_len w3.length]; exact e6, q T σ _ hR2 (Fr.of_stp (s0.trans s4))⟩
    · cases e7
  · cases e4
/-! x op= e, of ints -/
def dAugI (i : Nat) (o : Int → Int → Option Int) (f : DE) : DS := fun sl io => match sl[i]? with
  | some (.dat (.int a)) => (f sl io).bind fun p => match p.1 with
    | .dat (.int b) => (o a b).map fun c => .nx (sl.set i (.dat (.int c))) p.2
    | _ => none
  | _ => none
def ipO (o : Int → Int → Option Int) : TIp := fun x y H Q => ∃ i j k, x = .int i ∧ y = .int j ∧ o i j = some k ∧ Q (.int k) H
theorem pds_augI {i : Nat} {st : Stmt} {o : Int → Int → Option Int} (h : PS X st (tAug i (tE X.K f) (ipO o))) : PS X st (tS X.K (dAugI i o f)) := PS.imp h fun D σ H hh => by
  obtain ⟨T, sl, io, hR, r, e, q⟩ := hh
  unfold dAugI at e
  split at e
  · rename_i a hs
    obtain ⟨v, ev, hv⟩ := hR.slot i _ hs
    cases hv
    simp only [Option.bind_eq_some_iff, Prod.exists] at e
    obtain ⟨b, io1, e1, e2⟩ := e
    split at e2
    · rename_i b'
      simp only [Option.map_eq_some_iff] at e2
      obtain ⟨c, e3, rfl⟩ := e2
      refine ⟨_, ev, one hR e1 fun x H1 s1 i1 v1 => ?_⟩
      have v1' := VwOk.int (.inl v1)
      subst v1'
      exact ⟨_, _, c, rfl, rfl, e3, q T _ H1 ((hR.step s1 i1).set i ⟨_, rfl, .int c⟩) (Fr.of_stp s1)⟩
    · cases e2
  · cases e
theorem ip_addO : PIp X .Add (ipO fun i j => some (i + j)) := by
  intro pins s σ H x y v u Q I r1 r2 ⟨i, j, k, e1, e2, e3, q⟩
  cases e3
  exact ip_add pins s σ H x y v u Q I r1 r2 ⟨i, j, e1, e2, q⟩
end
end DD
set_option Elab.async false
set_option linter.all false
set_option maxRecDepth 100000
set_option maxHeartbeats 2000000
namespace DD
open PySem PySem.Spec PyProof.Rows L2

mutual
def beqD : D → D → Bool
  | .none, .none => true
  | .bool a, .bool b => a == b
  | .int a, .int b => decide (a = b)
  | .str a, .str b => decide (a = b)
  | .list a, .list b => beqL a b
  | .tuple a, .tuple b => beqL a b
  | _, _ => false
def beqL : List D → List D → Bool
  | [], [] => true
  | x :: xs, y :: ys => beqD x y && beqL xs ys
  | _, _ => false
end
mutual
theorem beqD_eq : ∀ {a b : D}, beqD a b = true → a = b
  | .none, .none, _ => rfl
  | .bool a, .bool b, h => by simp [beqD] at h; rw [h]
  | .int a, .int b, h => by simp [beqD] at h; rw [h]
  | .str a, .str b, h => by simp [beqD] at h; rw [h]
  | .list a, .list b, h => by rw [beqL_eq (a := a) (b := b) (by simpa [beqD] using h)]
  | .tuple a, .tuple b, h => by rw [beqL_eq (a := a) (b := b) (by simpa [beqD] using h)]
  | .none, .bool _, h | .none, .int _, h | .none, .str _, h | .none, .list _, h | .none, .tuple _, h | .none, .dict _, h => by simp [beqD] at h
  | .bool _, .none, h | .bool _, .int _, h | .bool _, .str _, h | .bool _, .list _, h | .bool _, .tuple _, h | .bool _, .dict _, h => by simp [beqD] at h
  | .int _, .none, h | .int _, .bool _, h | .int _, .str _, h | .int _, .list _, h | .int _, .tuple _, h | .int _, .dict _, h => by simp [beqD] at h
  | .str _, .none, h | .str _, .bool _, h | .str _, .int _, h | .str _, .list _, h | .str _, .tuple _, h | .str _, .dict _, h => by simp [beqD] at h
  | .list _, .none, h | .list _, .bool _, h | .list _, .int _, h | .list _, .str _, h | .list _, .tuple _, h | .list _, .dict _, h => by simp [beqD] at h
  | .tuple _, .none, h | .tuple _, .bool _, h | .tuple _, .int _, h | .tuple _, .str _, h | .tuple _, .list _, h | .tuple _, .dict _, h => by simp [beqD] at h
  | .dict _, _, h => by simp [beqD] at h
theorem beqL_eq : ∀ {a b : List D}, beqL a b = true → a = b
  | [], [], _ => rfl
  | x :: xs, y :: ys, h => by
    rw [beqL, Bool.and_eq_true] at h
    rw [beqD_eq h.1, beqL_eq h.2]
  | [], _ :: _, h => by simp [beqL] at h
  | _ :: _, [], h => by simp [beqL] at h
end
mutual
theorem beqD_refl : ∀ {a : D}, im a = true → beqD a a = true
  | .none, _ => rfl
  | .bool a, _ => by simp [beqD]
  | .int a, _ => by simp [beqD]
  | .str a, _ => by simp [beqD]
  | .list a, h => by simp [im] at h
  | .tuple a, h => by rw [beqD]; exact beqL_refl (by simpa [im] using h)
  | .dict a, h => by simp [im] at h
theorem beqL_refl : ∀ {a : List D}, imAll a = true → beqL a a = true
  | [], _ => rfl
  | x :: xs, h => by
    rw [imAll, Bool.and_eq_true] at h
    rw [beqL, beqD_refl h.1, beqL_refl h.2]; rfl
end
/-- the list that is walked stands as it stood -/
abbrev Chk := Option (Nat × List D)
def chk : Chk → IO → Bool
  | none, _ => true
  | some (k, ds), io => match io[k]? with
    | some es => beqL es ds
    | none => false

/-! ### while -/
def whGo (t : DT) (body : DS) : Nat → DS
  | 0, _, _ => none
  | n + 1, sl, io => (t sl io).bind fun p => if p.1 then (body sl p.2).bind fun r => match r with
    | .nx sl2 io2 => whGo t body n sl2 io2
    | .ct sl2 io2 => whGo t body n sl2 io2
    | .bk sl2 io2 => some (.nx sl2 io2)
    | .rt a io2 => some (.rt a io2) else some (.nx sl p.2)
section
variable {X : Cx} {f g h : DE}
theorem pds_while {n : Nat} {c : Expr} {bd : List Stmt} {t : DT} {body : DS} {pos : Pos} (hp : PassesOwn (model X.prog X.w) X.A X.env X.xe) (hc : PT X c (tT X.K t)) (hb : PSs X bd (tS X.K body)) : PS X (.While c bd [] pos) (tS X.K (whGo t body n)) := PS.imp (ps_while hp hc hb) fun D σ H hh => by
  obtain ⟨T, sl, io, hR, r, e, q⟩ := hh
  refine ⟨fun m σ' H' => ∃ T' sl' io', Rel X.K T' σ' sl' io' H' ∧ Fr T H T' H' ∧ whGo t body m sl' io' = some r, ⟨n, T, sl, io, hR, Fr.refl _ _, e⟩, ?_⟩
  rintro m σ' H' ⟨T', sl', io', hR', hf, e'⟩
  cases m with
  | zero => cases e'
  | succ m =>
    unfold whGo at e'
    simp only [Option.bind_eq_some_iff, Prod.exists] at e'
    obtain ⟨b, io1, e1, e2⟩ := e'
    refine ⟨T', sl', io', hR', b, io1, e1, fun H1 s1 i1 => ?_⟩
    cases b with
    | false =>
      cases e2
      show D.nx σ' H1
      exact q T' σ' H1 (hR'.step s1 i1) (hf.trans (Fr.of_stp s1))
    | true =>
      simp only [if_true, Option.bind_eq_some_iff] at e2
      obtain ⟨r1, e3, e4⟩ := e2
      refine ⟨fun σ2 H2 => ∃ T' sl' io', Rel X.K T' σ2 sl' io' H2 ∧ Fr T H T' H2 ∧ whGo t body m sl' io' = some r, fun σ2 H2 hN => ⟨m, Nat.lt_succ_self m, hN⟩, ?_⟩
      refine ⟨T', sl', io1, hR'.step s1 i1, r1, e3, ?_⟩
      have hf1 := hf.trans (Fr.of_stp s1)
      cases r1 with
      | nx sl2 io2 => exact fun T2 σ2 H2 hr2 hf2 => ⟨T2, sl2, io2, hr2, hf1.trans hf2, e4⟩
      | ct sl2 io2 => exact fun T2 σ2 H2 hr2 hf2 => ⟨T2, sl2, io2, hr2, hf1.trans hf2, e4⟩
      | bk sl2 io2 =>
        cases e4
        exact fun T2 σ2 H2 hr2 hf2 => q T2 σ2 H2 hr2 (hf1.trans hf2)
      | rt a io2 =>
        cases e4
        exact (q.fr hf1 : RtOk X.K T' H1 D (.rt a io2))
end

/-! ### what is walked -/
theorem Fr.out {T T' : List Addr} {H H' : Hp} (f : Fr T H T' H') : Ex (out T H) (out T' H') := fun b o e => by
  obtain ⟨nb, e'⟩ := out_some e
  have : b ∉ T' := fun z => by
    rcases f.new b z with z | z
    · exact nb z
    · rw [z] at e'; cases e'
  rw [out_not this]; exact f.keep b o nb e'
structure Src (K : PySem.W.Frag) (T : List Addr) (H : Hp) (J : It) (items : List D) (c : Chk) : Prop where
  go : ∀ (T' : List Addr) (io' : IO) (H' : Hp) (i : Nat) (d : D), Fr T H T' H' → IoOk K T' io' H' → chk c io' = true → items[i]? = some d → J.go i H' ∧ ∀ x H'', J.yld i H' x H'' → Ex H' H'' ∧ Dd K (out T' H'') x d
  stop : ∀ (T' : List Addr) (io' : IO) (H' : Hp) (i : Nat), Fr T H T' H' → IoOk K T' io' H' → chk c io' = true → items.length ≤ i → J.stop i H'
theorem Src.list {K : PySem.W.Frag} {T : List Addr} {H : Hp} {a : Addr} {xs : List V} {ds : List D} (n : a ∉ T) (h : H a = some (.lst xs)) (hd : DdAll K (out T H) xs ds) : Src K T H (Itl K a) ds none := by
  have st : ∀ {T' : List Addr} {H' : Hp}, Fr T H T' H' → H' a = some (.lst xs) := fun f => f.keep a _ n h
  refine ⟨fun T' io' H' i d f i1 _ e => ?_, fun T' io' H' i f _ _ hl => ⟨xs, SqL.of (st f), by rw [hd.length]; exact hl⟩⟩
  obtain ⟨v, h1, h2⟩ := hd.get e
  refine ⟨⟨xs, v, SqL.of (st f), h1⟩, fun x H'' hy => ?_⟩
  obtain ⟨rfl, hx⟩ := hy
  have hx' := hx xs (SqL.of (st f))
  rw [h1] at hx'
  cases hx'
  exact ⟨Ex.refl _, h2.mono f.out⟩
theorem Src.tup {K : PySem.W.Frag} {T : List Addr} {H : Hp} {a : Addr} {xs : List V} {ds : List D} (h : SqT K (out T H) a xs) (hd : DdAll K (out T H) xs ds) : Src K T H (Itt K a) ds none := by
  have st : ∀ {T' : List Addr} {H' : Hp}, Fr T H T' H' → SqT K H' a xs := fun f => Evl.ex_t out_ex (Evl.ex_t f.out h)
  refine ⟨fun T' io' H' i d f i1 _ e => ?_, fun T' io' H' i f _ _ hl => ⟨xs, st f, by rw [hd.length]; exact hl⟩⟩
  obtain ⟨v, h1, h2⟩ := hd.get e
  refine ⟨⟨xs, v, st f, h1⟩, fun x H'' hy => ?_⟩
  obtain ⟨rfl, hx⟩ := hy
  have hx' := hx xs (st f)
  rw [h1] at hx'
  cases hx'
  exact ⟨Ex.refl _, h2.mono f.out⟩
theorem Src.own {K : PySem.W.Frag} {T : List Addr} {H : Hp} {k : Nat} {a : Addr} {ds : List D} (hk : T[k]? = some a) : Src K T H (Itl K a) ds (some (k, ds)) := by
  have st : ∀ {T' : List Addr} {H' : Hp} {io' : IO}, Fr T H T' H' → IoOk K T' io' H' → chk (some (k, ds)) io' = true → ∃ xs, H' a = some (.lst xs) ∧ DdAll K (out T' H') xs ds := fun {T' H' io'} f i c => by
    obtain ⟨n, e⟩ := f.pre
    have hk' : T'[k]? = some a := by rw [e, List.getElem?_append_left (List.getElem?_eq_some_iff.mp hk).1]; exact hk
    obtain ⟨es, xs, e1, e2, e3, _⟩ := i.at_ k a hk'
    simp only [chk, e1] at c
    rw [beqL_eq c] at e3
    exact ⟨xs, e2, e3⟩
  refine ⟨fun T' io' H' i d f i1 c e => ?_, fun T' io' H' i f i1 c hl => ?_⟩
  · obtain ⟨xs, s1, hd⟩ := st f i1 c
    obtain ⟨v, h1, h2⟩ := hd.get e
    refine ⟨⟨xs, v, SqL.of s1, h1⟩, fun x H'' hy => ?_⟩
    obtain ⟨rfl, hx⟩ := hy
    have hx' := hx xs (SqL.of s1)
    rw [h1] at hx'
    cases hx'
    exact ⟨Ex.refl _, h2⟩
  · obtain ⟨xs, s1, hd⟩ := st f i1 c
    exact ⟨xs, SqL.of s1, by rw [hd.length]; exact hl⟩
def strItems (s : Str) : List D := s.cps.toList.map fun c => .str ⟨#[c]⟩
theorem Src.str {K : PySem.W.Frag} {T : List Addr} {H : Hp} {s : Str} : Src K T H (Its s) (strItems s) none := by
  refine ⟨fun T' io' H' i d f i1 _ e => ?_, fun T' io' H' i f _ _ hl => ?_⟩
  · unfold strItems at e
    rw [List.getElem?_map, Option.map_eq_some_iff] at e
    obtain ⟨c, e1, rfl⟩ := e
    have e2 : s.cps[i]? = some c := by simpa using e1
    refine ⟨?_, fun x H'' hy => ?_⟩
    · exact (Array.getElem?_eq_some_iff.mp e2).1
    · obtain ⟨rfl, c', h1, rfl⟩ := hy
      rw [e2] at h1; cases h1
      exact ⟨Ex.refl _, .str _⟩
  · show s.cps.size ≤ i
    unfold strItems at hl
    simpa using hl
def rngItems (lo : Int) (n : Nat) : List D := (List.range n).map fun i => .int (lo + (i : Nat))
theorem rngItems_get {lo : Int} {n i : Nat} {d : D} (e : (rngItems lo n)[i]? = some d) : i < n ∧ d = .int (lo + (i : Nat)) := by
  unfold rngItems at e
  rw [List.getElem?_map, Option.map_eq_some_iff] at e
  obtain ⟨j, e1, rfl⟩ := e
  have h := List.getElem?_eq_some_iff.mp e1
  obtain ⟨h1, h2⟩ := h
  rw [List.length_range] at h1
  rw [List.getElem_range] at h2
  subst h2
  exact ⟨h1, rfl⟩
theorem rngItems_len (lo : Int) (n : Nat) : (rngItems lo n).length = n := by unfold rngItems; simp
theorem Src.rng {K : PySem.W.Frag} {T : List Addr} {H : Hp} {lo : Int} {n : Nat} : Src K T H (Itr lo n) (rngItems lo n) none := by
  refine ⟨fun T' io' H' i d f i1 _ e => ?_, fun T' io' H' i f _ _ hl => ?_⟩
  · obtain ⟨h1, rfl⟩ := rngItems_get e
    refine ⟨h1, fun x H'' hy => ?_⟩
    obtain ⟨rfl, rfl⟩ := hy
    exact ⟨Ex.refl _, .int _⟩
  · show n ≤ i
    rw [rngItems_len] at hl
    exact hl

/-- a walk's denotation: the items, and what is looked at between -/
abbrev DI := List S → IO → Option ((List D × Chk) × IO)
def tI (K : PySem.W.Frag) (f : DI) : TI := fun σ H R => ∃ T sl io, Rel K T σ sl io H ∧ ∃ items c io', f sl io = some ((items, c), io') ∧ ∀ J H', Stp T H H' → IoOk K T io' H' → Src K T H' J items c → R J H'
theorem PI.imp {X : Cx} {tg e : Expr} {t t' : TI} (h : PI X tg e t) (hi : ∀ σ H R, t' σ H R → t σ H R) : PI X tg e t' := ⟨fun pins s σ H R I q => h.run pins s σ H R I (hi σ H R q)⟩
def itemsOf (io : IO) : A → Option (List D × Chk)
  | .dat (.tuple ds) => some (ds, none)
  | .dat (.list ds) => some (ds, none)
  | .dat (.str s) => some (strItems s, none)
  | .tmp ds => some (ds, none)
  | .ref k => io[k]?.map fun ds => (ds, some (k, ds))
  | _ => none
def dItS (f : DE) : DI := fun sl io => (f sl io).bind fun p => (itemsOf p.2 p.1).map fun q => (q, p.2)
def iSeq (K : PySem.W.Frag) (tl : TE) : TI := fun σ H R => tl σ H fun x H1 =>
  (∃ a, x = .ref a ∧ (∃ xs, SqL K H1 a xs) ∧ R (Itl K a) H1) ∨ (∃ a, x = .ref a ∧ (∃ xs, SqT K H1 a xs) ∧ R (Itt K a) H1) ∨ ∃ z, x = .str z ∧ R (Its z) H1
section
variable {X : Cx} {tg : Expr} {f g h : DE}
theorem pi_seqA {l : Expr} {tl : TE} (hl : PE X l tl) : PI X tg l (iSeq X.K tl) :=
  ⟨fun pins s σ H R I h => thn (hl.run pins s σ H _ I h) fun v s1 hv => by
    obtain ⟨x, H1, I1, r1, q1⟩ := hv
    rcases q1 with ⟨a, rfl, ⟨xs, hq⟩, q⟩ | ⟨a, rfl, ⟨xs, hq⟩, q⟩ | ⟨z, rfl, q⟩
    · cases r1
      obtain ⟨its, rv, pl, hz⟩ := I1.list hq
      exact wpAny_pyIter_list pl.isList (pi_one (tk := s1.toks) I1 _ (turn_list a _) ⟨_, Heap.get?_push_size _ rfl, rfl, rfl⟩ q)
    · cases r1
      obtain ⟨its, rv, pl, hz⟩ := I1.tuple hq
      exact wpAny_pyIter_tuple pl (pi_one (tk := s1.toks) I1 _ (turn_tuple a _) ⟨_, Heap.get?_push_size _ rfl, rfl, rfl⟩ q)
    · obtain ⟨t, rfl⟩ := r1
      by_cases ha : z.cps.all (· < 128) = true
      · exact wpAny_pyIter_ascii ha (pi_one (tk := s1.toks) I1 _ (turn_str _ z t _ (.inl rfl)) ⟨_, Heap.get?_push_size _ rfl, rfl, rfl⟩ q)
      · exact wpAny_pyIter_wide (Bool.eq_false_iff.mpr ha) (pi_one (tk := s1.toks) I1 _ (turn_str _ z t _ (.inr rfl)) ⟨_, Heap.get?_push_size _ rfl, rfl, rfl⟩ q)⟩
theorem pdi_seq {l : Expr} (hl : PE X l (tE X.K f)) : PI X tg l (tI X.K (dItS f)) := PI.imp (pi_seqA hl) fun σ H R hh => by
  obtain ⟨T, sl, io, hR, items, c, io', e, q⟩ := hh
  unfold dItS at e
  simp only [Option.bind_eq_some_iff, Option.map_eq_some_iff, Prod.exists, Prod.mk.injEq] at e
  obtain ⟨a, io1, e1, q1, q2, e2, ⟨rfl, rfl⟩, rfl⟩ := e
  refine one hR e1 fun x H1 s1 i1 v1 => ?_
  unfold itemsOf at e2
  split at e2
  · cases e2
    obtain ⟨p, xs, rfl, h1, h2⟩ := VwOk.tup (.inl v1)
    exact .inr (.inl ⟨p, rfl, ⟨xs, Evl.ex_t out_ex h1⟩, q _ H1 s1 i1 (Src.tup h1 h2)⟩)
  · cases e2
    have v1' : Dd X.K (out T H1) x (.list _) := v1
    cases v1' with
    | lst h1 h2 =>
      obtain ⟨n1, h1'⟩ := out_some h1
      exact .inl ⟨_, rfl, ⟨_, SqL.of h1'⟩, q _ H1 s1 i1 (Src.list n1 h1' h2)⟩
  · cases e2
    have v1' := VwOk.str (.inl v1)
    subst v1'
    exact .inr (.inr ⟨_, rfl, q _ H1 s1 i1 Src.str⟩)
  · cases e2
    obtain ⟨p, xs, rfl, n, nt, hp, hd⟩ := v1
    exact .inl ⟨p, rfl, ⟨xs, SqL.of hp⟩, q _ H1 s1 i1 (Src.list nt hp hd)⟩
  · simp only [Option.map_eq_some_iff, Prod.mk.injEq] at e2
    obtain ⟨ds, e3, rfl, rfl⟩ := e2
    obtain ⟨p, ep, rfl⟩ := v1
    obtain ⟨es, xs, w1, w2, w3, _⟩ := i1.at_ _ p ep
    exact .inl ⟨p, rfl, ⟨xs, SqL.of w2⟩, q _ H1 s1 i1 (Src.own ep)⟩
  · cases e2
/-- an end of a range -/
def fitB : Int → Bool
  | .ofNat n => Nat.ble n 1000000
  | .negSucc n => Nat.ble n 1000000
theorem fitB_iff {i : Int} : fitB i = true ↔ -1000001 ≤ i ∧ i ≤ 1000000 := by
  cases i with
  | ofNat n =>
    show Nat.ble n 1000000 = true ↔ _
    rw [Nat.ble_eq, Int.ofNat_eq_natCast]
    omega
  | negSucc n =>
    show Nat.ble n 1000000 = true ↔ _
    rw [Nat.ble_eq]
    omega
theorem fitB_62 {i : Int} (h : fitB i = true) : -(2 ^ 62) ≤ i ∧ i < 2 ^ 62 := by
  have := fitB_iff.mp h
  omega
theorem fitB_nat {n : Nat} (h : n ≤ 1000000) : fitB (n : Int) = true := fitB_iff.mpr (by omega)
def dItR1 (g : DA) : DI := fun sl io => (g sl io).bind fun p => match p.1 with
  | [.dat (.int j)] => if fitB j = true then some ((rngItems 0 j.toNat, none), p.2) else none
  | _ => none
def dItR2 (g : DA) : DI := fun sl io => (g sl io).bind fun p => match p.1 with
  | [.dat (.int i), .dat (.int j)] => if fitB i = true ∧ fitB j = true then some ((rngItems i (j - i).toNat, none), p.2) else none
  | _ => none
theorem pdi_rng1 {a : Expr} {g : DA} {p pos : Pos} (hg : Gl X "range") (hm : X.mg "range" = none) (ha : PA X [a] (tA X.K g)) (hs : starEach [a] X.env = [(false, eval a X.env)] := by rfl) : PI X tg (.Call (.Name "range" p) [a] [] pos) (tI X.K (dItR1 g)) := PI.imp (pi_range1 hg hm ha hs) fun σ H R hh => by
  obtain ⟨T, sl, io, hR, items, c, io', e, q⟩ := hh
  unfold dItR1 at e
  simp only [Option.bind_eq_some_iff, Prod.exists] at e
  obtain ⟨as, io1, e1, e2⟩ := e
  split at e2
  · rename_i j
    split at e2
    · rename_i hc
      cases e2
      refine ⟨T, sl, io, hR, _, _, e1, fun vs H1 s1 i1 v1 => ?_⟩
      cases v1 with
      | cons h1 t1 =>
        cases t1
        have h1' := VwOk.int (.inl h1)
        subst h1'
        exact ⟨j, rfl, (fitB_62 hc).1, (fitB_62 hc).2, q _ H1 s1 i1 Src.rng⟩
    · cases e2
  · cases e2
theorem pdi_rng2 {a b : Expr} {g : DA} {p pos : Pos} (hg : Gl X "range") (hm : X.mg "range" = none) (ha : PA X [a, b] (tA X.K g)) (hs : starEach [a, b] X.env = [(false, eval a X.env), (false, eval b X.env)] := by rfl) (hs2 : starEach [b] X.env = [(false, eval b X.env)] := by rfl) : PI X tg (.Call (.Name "range" p) [a, b] [] pos) (tI X.K (dItR2 g)) := PI.imp (pi_range2 hg hm ha hs hs2) fun σ H R hh => by
  obtain ⟨T, sl, io, hR, items, c, io', e, q⟩ := hh
  unfold dItR2 at e
  simp only [Option.bind_eq_some_iff, Prod.exists] at e
  obtain ⟨as, io1, e1, e2⟩ := e
  split at e2
  · rename_i i j
    split at e2
    · rename_i hc
      cases e2
      refine ⟨T, sl, io, hR, _, _, e1, fun vs H1 s1 i1 v1 => ?_⟩
      cases v1 with
      | cons h1 t1 =>
        cases t1 with
        | cons h2 t2 =>
          cases t2
          have h1' := VwOk.int (.inl h1)
          have h2' := VwOk.int (.inl h2)
          subst h1' h2'
          exact ⟨i, j, rfl, ⟨(fitB_62 hc.1).1, (fitB_62 hc.1).2, (fitB_62 hc.2).1, (fitB_62 hc.2).2⟩, q _ H1 s1 i1 Src.rng⟩
    · cases e2
  · cases e2
end

/-! ### for -/
def forGo (c : Chk) (tg : Tg) (body : DS) : List D → DS
  | [], sl, io => if chk c io = true then some (.nx sl io) else none
  | d :: r, sl, io => if chk c io = true then (tgGo tg d sl).bind fun sl1 => (body sl1 io).bind fun x => match x with
    | .nx sl2 io2 => forGo c tg body r sl2 io2
    | .ct sl2 io2 => forGo c tg body r sl2 io2
    | .bk sl2 io2 => some (.nx sl2 io2)
    | .rt a io2 => some (.rt a io2) else none
def dFor (it : DI) (tg : Tg) (body : DS) : DS := fun sl io => (it sl io).bind fun p => forGo p.1.2 tg body p.1.1 sl p.2
section
variable {X : Cx} {f g h : DE}
theorem Rel.ex {K : PySem.W.Frag} {T : List Addr} {σ : L2.St} {sl : List S} {io : IO} {H H' : Hp} (h : Rel K T σ sl io H) (e : Ex H H') : Rel K T σ sl io H' := h.step (Stp.of_ex e) (h.io.ex e)
theorem pds_for {iter tgt : Expr} {bd : List Stmt} {it : DI} {tg : Tg} {body : DS} {pos : Pos} (hp : PassesOwn (model X.prog X.w) X.A X.env X.xe) (hc : X.calm = true) (hi : PI X tgt iter (tI X.K it)) (hg : PG X tgt (gTg X.K tg)) (hb : PSs X bd (tS X.K body))
    (hs : ∀ x, foldedSetIterable iter X.env x = pure x := by intro _; rfl) : PS X (.For tgt iter bd [] pos) (tS X.K (dFor it tg body)) := PS.imp (ps_for hp hc hi hg hb hs) fun D σ H hh => by
  obtain ⟨T, sl, io, hR, r, e, q⟩ := hh
  unfold dFor at e
  rw [Option.bind_eq_some_iff] at e
  obtain ⟨⟨⟨items, c⟩, io1⟩, e1, e2⟩ := e
  refine ⟨T, sl, io, hR, items, c, io1, e1, fun J H1 s1 i1 src => ?_⟩
  have hR1 := hR.step s1 i1
  have q1 := q.fr (Fr.of_stp s1)
  refine ⟨fun i m σ' H' => i + m = items.length ∧ ∃ T' sl' io', Rel X.K T' σ' sl' io' H' ∧ Fr T H1 T' H' ∧ forGo c tg body (items.drop i) sl' io' = some r, ⟨items.length, by omega, T, sl, io1, hR1, Fr.refl _ _, e2⟩, ?_⟩
  rintro i m σ' H' ⟨em, T', sl', io', hR', hf, e'⟩
  by_cases hlt : i < items.length
  · have hdr : items.drop i = items[i] :: items.drop (i + 1) := List.drop_eq_getElem_cons hlt
    rw [hdr] at e'
    unfold forGo at e'
    split at e'
    · rename_i hck
      simp only [Option.bind_eq_some_iff] at e'
      obtain ⟨sl1, e3, x, e4, e5⟩ := e'
      obtain ⟨g1, g2⟩ := src.go T' io' H' i items[i] hf hR'.io hck (List.getElem?_eq_getElem hlt)
      refine .inr ⟨g1, fun σ2 H2 => ∃ T' sl' io', Rel X.K T' σ2 sl' io' H2 ∧ Fr T H1 T' H2 ∧ forGo c tg body (items.drop (i + 1)) sl' io' = some r, fun σ2 H2 hN => ⟨m - 1, by omega, by omega, hN⟩, fun v H2 hy => ?_⟩
      obtain ⟨ex, hd⟩ := g2 v H2 hy
      refine tg_run (hR'.ex ex) hd e3 fun σ3 hr3 => ?_
      refine ⟨T', sl1, io', hr3, x, e4, ?_⟩
      have hf1 := hf.trans (Fr.of_stp (Stp.of_ex (T := T') ex))
      cases x with
      | nx sl2 io2 => exact fun T2 σ2 H3 hr2 hf2 => ⟨T2, sl2, io2, hr2, hf1.trans hf2, e5⟩
      | ct sl2 io2 => exact fun T2 σ2 H3 hr2 hf2 => ⟨T2, sl2, io2, hr2, hf1.trans hf2, e5⟩
      | bk sl2 io2 =>
        cases e5
        exact fun T2 σ2 H3 hr2 hf2 => q1 T2 σ2 H3 hr2 (hf1.trans hf2)
      | rt a io2 =>
        cases e5
        exact (q1.fr hf1 : RtOk X.K T' H2 D (.rt a io2))
    · cases e'
  · have hdr : items.drop i = [] := List.drop_eq_nil_of_le (by omega)
    rw [hdr] at e'
    unfold forGo at e'
    split at e'
    · rename_i hck
      cases e'
      exact .inl ⟨src.stop T' io' H' i hf hR'.io hck (by omega), q1 T' σ' H' hR' hf⟩
    · cases e'

/-! ### comprehensions -/
def wipeS (sl : List S) : List Nat → List S
  | [] => sl
  | v :: vs => (wipeS sl vs).set v .un
theorem Rel.wipe {K : PySem.W.Frag} {T : List Addr} {σ : L2.St} {sl : List S} {io : IO} {H : Hp} (h : Rel K T σ sl io H) : ∀ vs : List Nat, Rel K T (L2.wipe σ vs) (wipeS sl vs) io H
  | [] => h
  | v :: vs => by
    have ih := h.wipe vs
    refine ⟨?_, fun j sj e => ?_, ih.io⟩
    · unfold L2.wipe wipeS; rw [List.length_set, List.length_set]; exact ih.len
    · unfold wipeS at e
      unfold L2.wipe
      by_cases hj : v = j
      · subst hj
        have hl : v < ((wipeS sl vs).set v .un).length := (List.getElem?_eq_some_iff.mp e).1
        rw [List.length_set] at hl
        rw [List.getElem?_set_self hl] at e
        cases e
        trivial
      · rw [List.getElem?_set_ne hj] at e
        rw [List.getElem?_set_ne hj]
        exact ih.slot j sj e
/-- an item of a new list: immutable, or a new list of immutable ones -/
def lcItem : A → Option D
  | .dat d => if im d = true then some d else none
  | .tmp ds => if imAll ds = true then some (.list ds) else none
  | .ref _ => none
def lcGo (c : Chk) (tg : Tg) (t : DT) (f : DE) (sl : List S) : List D → Nat → IO → Option (List D × IO)
  | [], _, io => if chk c io = true then some ([], io) else none
  | d :: r, n, io => if chk c io = true ∧ n < LIM then (tgGo tg d sl).bind fun sl1 => (t sl1 io).bind fun p => if p.1 then (f sl1 p.2).bind fun q => (lcItem q.1).bind fun y => (lcGo c tg t f sl r (n + 1) q.2).map fun z => (y :: z.1, z.2) else lcGo c tg t f sl r (n + 1) p.2 else none
def dLc (it : DI) (tg : Tg) (t : DT) (f : DE) (vs : List Nat) : DE := fun sl io => (it sl io).bind fun p => (lcGo p.1.2 tg t f (wipeS sl vs) p.1.1 0 p.2).map fun z => (.tmp z.1, z.2)
theorem lcItem_ok {K : PySem.W.Frag} {T : List Addr} {H H1 : Hp} {v : V} {a : A} {d : D} {Da : Addr} (t : TL (Da :: T) H1) (hD : H Da ≠ none) (h : VOk K T H H1 v a) (e : lcItem a = some d) : Dd K (out (Da :: T) H1) v d := by
  cases a with
  | dat d' =>
    simp only [lcItem] at e
    split at e
    · rename_i hi
      cases e
      have h' : Dd K (out T H1) v d := h
      exact (h'.mono out_ex).imOut t hi
    · cases e
  | tmp ds =>
    simp only [lcItem] at e
    split at e
    · rename_i hi
      cases e
      obtain ⟨p, xs, rfl, n, nt, hp, hd⟩ := h
      have hnm : p ∉ Da :: T := fun z => by
        rcases List.mem_cons.mp z with z | z
        · subst z; exact hD n
        · exact nt z
      exact .lst (by rw [out_not hnm]; exact hp) ((hd.mono out_ex).imOut t hi)
    · cases e
  | ref k => cases e
/-- one turn's store of the target names only its own slots -/
theorem gTg_wipe {K : PySem.W.Frag} {tg : Tg} {vs : List Nat} : (match tg with | .one i => i ∈ vs | .many is => ∀ i ∈ is, i ∈ vs) → ∀ {v : V} {σ : L2.St} {H : Hp} {Q : L2.St → Hp → Prop}, gTg K tg v (L2.wipe σ vs) H Q → gTg K tg v (L2.wipe σ vs) H fun σ2 H2 => L2.wipe σ2 vs = L2.wipe σ vs ∧ Q σ2 H2 := by
  have set1 : ∀ (σ : L2.St) (i : Nat) (v : V), i ∈ vs → ∀ σ0, L2.wipe σ vs = L2.wipe σ0 vs → L2.wipe (σ.set i (some v)) vs = L2.wipe σ0 vs := by
    intro σ i v hi σ0 h
    rw [← h]
    have key : ∀ (us : List Nat) (τ : L2.St) (j : Nat), (L2.wipe τ us)[j]? = if j ∈ us ∧ j < τ.length then some none else τ[j]? := by
      intro us
      induction us with
      | nil => intro τ j; simp [L2.wipe]
      | cons u us ih =>
        intro τ j
        unfold L2.wipe
        by_cases hj : u = j
        · subst hj
          by_cases hl : u < τ.length
          · rw [List.getElem?_set_self (by rw [L2.wipe_length]; exact hl)]
            simp [hl]
          · rw [List.getElem?_eq_none (by rw [List.length_set, L2.wipe_length]; omega), List.getElem?_eq_none (by omega)]
            simp [hl]
        · rw [List.getElem?_set_ne hj, ih]
          have : (j = u) = False := by simp; exact fun z => hj z.symm
          simp [List.mem_cons, this]
    apply List.ext_getElem?
    intro j
    rw [key, key, List.length_set]
    by_cases hj : j ∈ vs ∧ j < σ.length
    · rw [if_pos hj, if_pos hj]
    · rw [if_neg hj, if_neg hj]
      by_cases hij : i = j
      · subst hij
        have hl : ¬ i < σ.length := fun z => hj ⟨hi, z⟩
        rw [List.getElem?_eq_none (by rw [List.length_set]; omega), List.getElem?_eq_none (by omega)]
      · rw [List.getElem?_set_ne hij]
  have ww : ∀ (σ : L2.St), L2.wipe (L2.wipe σ vs) vs = L2.wipe σ vs := by
    intro σ
    have key : ∀ (us : List Nat) (τ : L2.St) (j : Nat), (L2.wipe τ us)[j]? = if j ∈ us ∧ j < τ.length then some none else τ[j]? := by
      intro us
      induction us with
      | nil => intro τ j; simp [L2.wipe]
      | cons u us ih =>
        intro τ j
        unfold L2.wipe
        by_cases hj : u = j
        · subst hj
          by_cases hl : u < τ.length
          · rw [List.getElem?_set_self (by rw [L2.wipe_length]; exact hl)]
            simp [hl]
          · rw [List.getElem?_eq_none (by rw [List.length_set, L2.wipe_length]; omega), List.getElem?_eq_none (by omega)]
            simp [hl]
        · rw [List.getElem?_set_ne hj, ih]
          have : (j = u) = False := by simp; exact fun z => hj z.symm
          simp [List.mem_cons, this]
    apply List.ext_getElem?
    intro j
    rw [key, key, L2.wipe_length]
    by_cases hj : j ∈ vs ∧ j < σ.length
    · rw [if_pos hj, if_pos hj]
    · rw [if_neg hj, if_neg hj]
  cases tg with
  | one i =>
    intro hv v σ H Q hq
    exact ⟨set1 _ i v hv σ (ww σ), hq⟩
  | many is =>
    intro hv v σ H Q hq
    obtain ⟨a, xs, e, hs, hl, hq⟩ := hq
    refine ⟨a, xs, e, hs, hl, ?_⟩
    have go : ∀ (is : List Nat), (∀ i ∈ is, i ∈ vs) → ∀ (xs : List V) (τ : L2.St), L2.wipe τ vs = L2.wipe σ vs → gNm is xs τ H Q → gNm is xs τ H fun σ2 H2 => L2.wipe σ2 vs = L2.wipe σ vs ∧ Q σ2 H2 := by
      intro is
      induction is with
      | nil => intro _ xs τ hw h; exact ⟨h.1, hw, h.2⟩
      | cons i is ih =>
        intro hm xs τ hw h
        obtain ⟨v, r, e, h⟩ := h
        exact ⟨v, r, e, ih (fun j hj => hm j (List.mem_cons_of_mem _ hj)) r _ (set1 τ i v (hm i List.mem_cons_self) σ hw) h⟩
    exact go is hv xs _ (ww σ) hq
theorem out_upd {T : List Addr} {H : Hp} {Da : Addr} {o : HO} (hm : Da ∈ T) : out T (upd H Da o) = out T H := by
  funext b
  unfold out
  by_cases hb : b ∈ T
  · rw [if_pos hb, if_pos hb]
  · rw [if_neg hb, if_neg hb, upd_ne (fun z => hb (by rw [z]; exact hm))]
theorem IoOk.side {K : PySem.W.Frag} {T : List Addr} {io : IO} {H : Hp} (i : IoOk K T io H) {Da : Addr} {ys : List V} {o : HO} (hn : Da ∉ T) (hD : H Da = some (.lst ys)) : IoOk K T io (upd H Da o) := by
  refine ⟨i.nd, i.len, fun k p hp => ?_⟩
  obtain ⟨ds, xs, e1, e2, e3, e4⟩ := i.at_ k p hp
  have hm : p ∈ T := List.mem_iff_getElem?.mpr ⟨k, hp⟩
  have hne : p ≠ Da := fun z => hn (by rw [← z]; exact hm)
  refine ⟨ds, xs, e1, by rw [upd_ne hne]; exact e2, ?_, e4⟩
  have tl : TL (Da :: T) H := fun b hb => by
    rcases List.mem_cons.mp hb with z | z
    · rw [z]; exact ⟨ys, hD⟩
    · exact i.tl b z
  refine ((e3.mono out_ex).imOut tl e4).mono fun b o' e => ?_
  obtain ⟨nb, e'⟩ := out_some e
  rw [out_not (fun z => nb (List.mem_cons_of_mem _ z)), upd_ne (fun z => nb (by rw [z]; exact List.mem_cons_self))]
  exact e'
def tgOwn (vs : List Nat) : Tg → Prop
  | .one i => i ∈ vs
  | .many is => ∀ i ∈ is, i ∈ vs
theorem lc_run {it : DI} {tg : Tg} {t : DT} {vs : List Nat} {σ : L2.St} {H : Hp} {Q : VK} (ho : tgOwn vs tg) (hh : tE X.K (dLc it tg t f vs) σ H Q) : tLc (tI X.K it) (gTg X.K tg) (tT X.K t) (tE X.K f) vs σ H Q := by
  obtain ⟨T, sl, io, hR, r, io', e, q⟩ := hh
  unfold dLc at e
  simp only [Option.bind_eq_some_iff, Option.map_eq_some_iff] at e
  obtain ⟨⟨⟨items, c⟩, io1⟩, e1, ⟨dsF, ioF⟩, e2, e3⟩ := e
  cases e3
  refine ⟨T, sl, io, hR, items, c, io1, e1, fun J H1 s1 i1 src Da hD => ?_⟩
  have hRw : Rel X.K T (L2.wipe σ vs) (wipeS sl vs) io1 H1 := (hR.step s1 i1).wipe vs
  have hDT : Da ∉ T := i1.fresh hD
  refine ⟨fun i m H' => i + m = items.length ∧ ∃ io' xs done rest, Rel X.K T (L2.wipe σ vs) (wipeS sl vs) io' H' ∧ Stp T H1 H' ∧ H' Da = some (.lst xs) ∧ DdAll X.K (out (Da :: T) H') xs done ∧ done.length ≤ i ∧ lcGo c tg t f (wipeS sl vs) (items.drop i) i io' = some (rest, ioF) ∧ done ++ rest = dsF,
    ⟨items.length, by omega, io1, [], [], dsF, hRw.ex (Ex.new hD), Stp.of_ex (Ex.new hD), upd_same, .nil, Nat.le_refl _, e2, rfl⟩, ?_⟩
  rintro i m H' ⟨em, io', xs, done, rest, hR', st', hD', hd', hl', e', ef⟩
  by_cases hlt : i < items.length
  · have hdr : items.drop i = items[i] :: items.drop (i + 1) := List.drop_eq_getElem_cons hlt
    rw [hdr] at e'
    unfold lcGo at e'
    split at e'
    · rename_i hck
      obtain ⟨hck, hn⟩ := hck
      simp only [Option.bind_eq_some_iff, Prod.exists] at e'
      obtain ⟨sl1, e3, b, io2, e4, e5⟩ := e'
      obtain ⟨g1, g2⟩ := src.go T io' H' i items[i] (Fr.of_stp st') hR'.io hck (List.getElem?_eq_getElem hlt)
      refine .inr ⟨g1, fun H2 => i + 1 + (m - 1) = items.length ∧ ∃ io' xs done rest, Rel X.K T (L2.wipe σ vs) (wipeS sl vs) io' H2 ∧ Stp T H1 H2 ∧ H2 Da = some (.lst xs) ∧ DdAll X.K (out (Da :: T) H2) xs done ∧ done.length ≤ i + 1 ∧ lcGo c tg t f (wipeS sl vs) (items.drop (i + 1)) (i + 1) io' = some (rest, ioF) ∧ done ++ rest = dsF,
        fun H2 hN => ⟨m - 1, by omega, hN⟩, fun v H2 hy => ?_⟩
      obtain ⟨ex, hd⟩ := g2 v H2 hy
      refine gTg_wipe (by cases tg <;> exact ho) (tg_run (hR'.ex ex) hd e3 fun σ3 hr3 => ?_)
      refine ⟨T, sl1, io', hr3, b, io2, e4, fun H3 s3 i3 => ?_⟩
      have st2 : Stp T H' H2 := Stp.of_ex ex
      cases b with
      | false =>
        refine iteF ?_
        simp only [Bool.false_eq_true, if_false] at e5
        have sAll := (st'.trans st2).trans s3
        have sx := st2.trans s3
        refine ⟨by omega, io2, xs, done, rest, hRw.step sAll i3, sAll, sx.keep _ _ hDT hD', hd'.mono ?_, by omega, e5, ef⟩
        intro b o e
        obtain ⟨nb, e'⟩ := out_some e
        rw [out_not nb]; exact sx.keep b o (fun z => nb (List.mem_cons_of_mem _ z)) e'
      | true =>
        refine iteT ?_
        simp only [if_true, Option.bind_eq_some_iff, Option.map_eq_some_iff, Prod.exists, Prod.mk.injEq] at e5
        obtain ⟨a, io3, e6, y, e7, zs, ioZ, e8, rfl, rfl⟩ := e5
        refine ⟨T, sl1, io2, hr3.step s3 i3, a, io3, e6, fun u H4 s4 i4 v4 => ?_⟩
        have sx := (st2.trans s3).trans s4
        have sAll := st'.trans sx
        have hD4 : H4 Da = some (.lst xs) := sx.keep _ _ hDT hD'
        have hD3 : H3 Da ≠ none := by rw [(st2.trans s3).keep _ _ hDT hD']; exact fun z => nomatch z
        have tl : TL (Da :: T) H4 := fun b hb => by
          rcases List.mem_cons.mp hb with z | z
          · rw [z]; exact ⟨xs, hD4⟩
          · exact i4.tl b z
        have hdone : DdAll X.K (out (Da :: T) H4) xs done := hd'.mono (by
          intro b o e
          obtain ⟨nb, e'⟩ := out_some e
          rw [out_not nb]; exact sx.keep b o (fun z => nb (List.mem_cons_of_mem _ z)) e')
        have hy4 : Dd X.K (out (Da :: T) H4) u y := lcItem_ok tl hD3 v4 e7
        have sUpd : Stp T H1 (upd H4 Da (.lst (xs ++ [u]))) := ⟨fun b o n e => by
          have hb : b ≠ Da := fun z => by rw [z, hD] at e; cases e
          rw [upd_ne hb]; exact sAll.keep b o n e, fun b e => by
          by_cases z : b = Da
          · rw [z, upd_same]; exact fun q => nomatch q
          · rw [upd_ne z]; exact sAll.there b e⟩
        have hxl : xs.length = done.length := hdone.length
        refine ⟨xs, hD4, ?_, by omega, io3, xs ++ [u], done ++ [y], zs, hRw.step sUpd (i4.side hDT hD4), sUpd, upd_same, ?_, by rw [List.length_append, List.length_singleton]; omega, e8, by rw [List.append_assoc]; exact ef⟩
        · unfold LIM at hn
          rw [sizeLine_eq]; omega
        · rw [out_upd List.mem_cons_self]
          exact hdone.append (.cons hy4 .nil)
    · cases e'
  · have hdr : items.drop i = [] := List.drop_eq_nil_of_le (by omega)
    rw [hdr] at e'
    unfold lcGo at e'
    split at e'
    · rename_i hck
      cases e'
      refine .inl ⟨src.stop T _ H' i (Fr.of_stp st') hR'.io hck (by omega), q _ H' (s1.trans st') hR'.io ?_⟩
      rw [List.append_nil] at ef
      subst ef
      have hd2 : DdAll X.K (out T H') xs done := hd'.mono fun b o e => by
        obtain ⟨nb, e'⟩ := out_some e
        rw [out_not (fun z => nb (List.mem_cons_of_mem _ z))]; exact e'
      exact ⟨Da, xs, rfl, s1.back hD, hDT, hD', hd2⟩
    · cases e'
def dYes : DT := fun _ io => some (true, io)
theorem PTs.imp {X : Cx} {ifs : List Expr} {t t' : TT} (h : PTs X ifs t) (hi : ∀ σ H Q, t' σ H Q → t σ H Q) : PTs X ifs t' := ⟨fun pins s σ H Q I q => h.run pins s σ H Q I (hi σ H Q q)⟩
theorem pdts_nil {X : Cx} : PTs X [] (tT X.K dYes) := PTs.imp pts_nil fun σ H Q hh => by
  obtain ⟨T, sl, io, hR, b, io', e, q⟩ := hh
  cases e
  exact q H (Stp.refl _ _) hR.io
theorem pdts_one {X : Cx} {c : Expr} {t : DT} (h : PT X c (tT X.K t)) : PTs X [c] (tT X.K t) := pts_one h
theorem pd_lc {elt tgt iter : Expr} {ifs : List Expr} {scope : Scope} {own : List (Str × Nat)} {pos : Pos} {it : DI} {tg : Tg} {t : DT} (hc : X.calm = true) (hN : X.N.Nodup) (ho : tgOwn (own.map (·.2)) tg) (hi : PI X tgt iter (tI X.K it)) (ok : BlkOk X.N X.env.scope scope own)
    (hg : ∀ (s : Shared) (H : Hp) (C : Addr) (cl : List (Str × Addr)) (fp : List Addr), PG (X.blk s H scope (compEnvC scope cl C X.env) fp) tgt (gTg X.K tg)) (ht : ∀ (s : Shared) (H : Hp) (C : Addr) (cl : List (Str × Addr)) (fp : List Addr), PTs (X.blk s H scope (compEnvC scope cl C X.env) fp) ifs (tT X.K t))
    (he : ∀ (s : Shared) (H : Hp) (C : Addr) (cl : List (Str × Addr)) (fp : List Addr), PE (X.blk s H scope (compEnvC scope cl C X.env) fp) elt (tE X.K f)) (hs : ∀ x, foldedSetIterable iter X.env x = pure x := by intro _; rfl) :
    PE X (.ListComp elt [⟨tgt, iter, ifs, 0⟩] scope pos) (tE X.K (dLc it tg t f (own.map (·.2)))) := PE.imp (pe_lc hc hN hi ok hg ht he hs) fun _ _ _ hh => lc_run ho hh
/-- y = [..]: dSet or dOwn of it -/
theorem ps_lcSet {i : Nat} {y : Str} {py : Pos} {elt tgt iter : Expr} {ifs : List Expr} {scope : Scope} {own : List (Str × Nat)} {pos spos : Pos} {it : DI} {tg : Tg} {t : DT} (hc : X.calm = true) (hN : X.N.Nodup) (ho : tgOwn (own.map (·.2)) tg) (hy : X.N[i]? = some y) (hyl : X.env.scope.names.lookup y = some .local)
    (hsw : swapsWith (.ListComp elt [⟨tgt, iter, ifs, 0⟩] scope pos) (some (.Name y py)) spos.line X.env = pure true) (hi : PI X tgt iter (tI X.K it)) (ok : BlkOk X.N X.env.scope scope own)
    (hg : ∀ (s : Shared) (H : Hp) (C : Addr) (cl : List (Str × Addr)) (fp : List Addr), PG (X.blk s H scope (compEnvC scope cl C X.env) fp) tgt (gTg X.K tg)) (ht : ∀ (s : Shared) (H : Hp) (C : Addr) (cl : List (Str × Addr)) (fp : List Addr), PTs (X.blk s H scope (compEnvC scope cl C X.env) fp) ifs (tT X.K t))
    (he : ∀ (s : Shared) (H : Hp) (C : Addr) (cl : List (Str × Addr)) (fp : List Addr), PE (X.blk s H scope (compEnvC scope cl C X.env) fp) elt (tE X.K f)) (hs : ∀ x, foldedSetIterable iter X.env x = pure x := by intro _; rfl) :
    PS X (.Assign [.Name y py] (.ListComp elt [⟨tgt, iter, ifs, 0⟩] scope pos) spos) (tAsg (tE X.K (dLc it tg t f (own.map (·.2)))) (gName i)) := PS.imp (ps_setLc hc hN hy hyl hsw hi ok hg ht he hs) fun D σ H hh => lc_run ho hh

/-! ### defs -/
def finish (n : Nat) : R → Option (A × IO)
  | .nx _ io => some (.dat .none, io.take n)
  | .rt (.dat d) io => if im d = true then some (.dat d, io.take n) else none
  | .rt (.tmp ds) io => if imAll ds = true then some (.tmp ds, io.take n) else none
  | .rt (.ref k) io => if n ≤ k then io[k]?.map fun ds => (.tmp ds, io.take n) else none
  | _ => none
def slots (n : Nat) (ds : List S) : List S := ds ++ List.replicate (n - ds.length) .un
def runD (np ns : Nat) (body : DS) : List D → Option A := fun ds => if ds.length = np then (body (slots ns (ds.map .dat)) []).bind fun r => (finish 0 r).map (·.1) else none
def runJ (np ns : Nat) (body : DS) : List D → List D → Option (A × List D) := fun js ds => if ds.length + 1 = np then (body (slots ns (.ref 0 :: ds.map .dat)) [js]).bind fun r => (finish 1 r).bind fun p => match p.2 with
  | [js'] => some (p.1, js')
  | _ => none else none
theorem start_slot {K : PySem.W.Frag} {H : Hp} {T : List Addr} {N : List Str} : ∀ {vs : List V} {ds : List D} {i : Nat} {s : S}, DdAll K (out T H) vs ds → (slots N.length (ds.map .dat))[i]? = some s → SOk K T H (L2.start N vs)[i]? s := by
  intro vs ds i s h e
  unfold slots at e
  unfold L2.start
  have hl := h.length
  by_cases hi : i < ds.length
  · rw [List.getElem?_append_left (by rw [List.length_map]; exact hi), List.getElem?_map, List.getElem?_eq_getElem hi] at e
    cases e
    obtain ⟨v, h1, h2⟩ := h.get (List.getElem?_eq_getElem hi)
    refine ⟨v, ?_, h2⟩
    rw [List.getElem?_append_left (by rw [List.length_map]; omega), List.getElem?_map, h1]; rfl
  · rw [List.getElem?_append_right (by rw [List.length_map]; omega)] at e
    have := List.mem_of_getElem? e
    rw [List.mem_replicate] at this
    rw [this.2]
    trivial
theorem start_len {K : PySem.W.Frag} {H : Hp} {T : List Addr} {N : List Str} {vs : List V} {ds : List D} (h : DdAll K (out T H) vs ds) : (L2.start N vs).length = (slots N.length (ds.map .dat)).length := by
  unfold slots L2.start
  simp only [List.length_append, List.length_map, List.length_replicate, h.length]
theorem out_nil_ex {H : Hp} {T : List Addr} : Ex (out T H) H := out_ex
/-- the end of a def's body: from what it hands back to the promise -/
theorem fin_ok {K : PySem.W.Frag} {T0 T' : List Addr} {H H' : Hp} {io' : IO} {v : V} {a : A} {r : A} {ios : IO} (i' : IoOk K T' io' H') (hf : Fr T0 H T' H') (hv : VOk K T' H H' v a) (e : finish T0.length (.rt a io') = some (r, ios)) : FROk K H H' v r ∧ ios = io'.take T0.length := by
  cases a with
  | dat d =>
    simp only [finish] at e
    split at e
    · rename_i hi
      cases e
      have hv' : Dd K (out T' H') v d := hv
      exact ⟨⟨hv'.mono out_ex, hi⟩, rfl⟩
    · cases e
  | tmp ds =>
    simp only [finish] at e
    split at e
    · rename_i hi
      cases e
      obtain ⟨p, xs, rfl, n, nt, hp, hd⟩ := hv
      exact ⟨⟨p, xs, rfl, n, hp, hd.mono out_ex, hi⟩, rfl⟩
    · cases e
  | ref k =>
    simp only [finish] at e
    split at e
    · rename_i hk
      rw [Option.map_eq_some_iff] at e
      obtain ⟨ds, e1, e2⟩ := e
      cases e2
      obtain ⟨p, ep, rfl⟩ := hv
      obtain ⟨es, xs, w1, w2, w3, w4⟩ := i'.at_ k p ep
      rw [e1] at w1; cases w1
      have hm : p ∈ T' := List.mem_iff_getElem?.mpr ⟨k, ep⟩
      refine ⟨⟨p, xs, rfl, ?_, w2, w3.mono out_ex, w4⟩, rfl⟩
      rcases hf.new p hm with z | z
      · exfalso
        obtain ⟨j, hj⟩ := List.mem_iff_getElem?.mp z
        obtain ⟨l, el⟩ := hf.pre
        have hj' : T'[j]? = some p := by rw [el, List.getElem?_append_left (List.getElem?_eq_some_iff.mp hj).1]; exact hj
        obtain ⟨l1, q1⟩ := List.getElem?_eq_some_iff.mp hj'
        obtain ⟨l2, q2⟩ := List.getElem?_eq_some_iff.mp ep
        have : j = k := (List.getElem_inj i'.nd).mp (q1.trans q2.symm)
        have := (List.getElem?_eq_some_iff.mp hj).1
        omega
      · exact z
    · cases e
theorem runD_ok {K : PySem.W.Frag} {np : Nat} {N : List Str} {body : DS} {vs : List V} {H : Hp} {Q : VK} {E : XK} (h : spD K (runD np N.length body) vs H Q E) : tS K body { nx := fun _ H' => Q .non H', rt := Q } (L2.start N vs) H := by
  obtain ⟨ds, r, hd, e, q⟩ := h
  unfold runD at e
  split at e
  · simp only [Option.bind_eq_some_iff, Option.map_eq_some_iff, Prod.exists] at e
    obtain ⟨x, e1, r', ios, e2, rfl⟩ := e
    have hd' : DdAll K (out [] H) vs ds := by rw [out_nil]; exact hd
    refine ⟨[], _, [], ⟨start_len hd', fun i s hs => start_slot hd' hs, ⟨.nil, rfl, fun k p hp => by simp at hp⟩⟩, x, e1, ?_⟩
    have ex : ∀ {T' : List Addr} {H' : Hp}, Fr [] H T' H' → Ex H H' := fun f b o e => f.keep b o (fun z => nomatch z) e
    cases x with
    | nx sl' io' =>
      simp only [finish] at e2
      cases e2
      exact fun T' σ' H' hr hf => q _ H' (ex hf) ⟨.non, rfl⟩
    | rt a io' => exact fun T' v H' i' hf hv => q v H' (ex hf) (fin_ok (T0 := []) i' hf hv e2).1
    | bk sl' io' => cases e2
    | ct sl' io' => cases e2
  · cases e
theorem runJ_ok {K : PySem.W.Frag} {np : Nat} {N : List Str} {body : DS} {vs : List V} {H : Hp} {Q : VK} {E : XK} (h : spJ K (runJ np N.length body) vs H Q E) : tS K body { nx := fun _ H' => Q .non H', rt := Q } (L2.start N vs) H := by
  obtain ⟨p, vs', xs, js, ds, r, js', rfl, hp, hj, hi, hd, e, q⟩ := h
  unfold runJ at e
  split at e
  · simp only [Option.bind_eq_some_iff, Prod.exists] at e
    obtain ⟨x, e1, r', ios, e2, e3⟩ := e
    have io1 : IoOk K [p] [js] H := ⟨by simp, rfl, fun k p' hp' => by
      cases k with
      | zero => cases hp'; exact ⟨js, xs, rfl, hp, hj, hi⟩
      | succ k => simp at hp'⟩
    have hR : Rel K [p] (L2.start N (.ref p :: vs')) (slots N.length (.ref 0 :: ds.map .dat)) [js] H := by
      refine ⟨?_, fun i s hs => ?_, io1⟩
      · unfold slots L2.start
        simp only [List.map_cons, List.length_append, List.length_cons, List.length_map, List.length_replicate, hd.length]
      · unfold slots at hs
        unfold L2.start
        cases i with
        | zero =>
          simp only [List.cons_append, List.getElem?_cons_zero] at hs
          cases hs
          exact ⟨p, rfl, rfl⟩
        | succ i =>
          simp only [List.cons_append, List.getElem?_cons_succ, List.map_cons] at hs ⊢
          have hl := hd.length
          by_cases hlt : i < ds.length
          · rw [List.getElem?_append_left (by rw [List.length_map]; exact hlt), List.getElem?_map, List.getElem?_eq_getElem hlt] at hs
            cases hs
            obtain ⟨v, h1, h2⟩ := hd.get (List.getElem?_eq_getElem hlt)
            refine ⟨v, ?_, h2⟩
            rw [List.getElem?_append_left (by rw [List.length_map]; omega), List.getElem?_map, h1]; rfl
          · rw [List.getElem?_append_right (by rw [List.length_map]; omega)] at hs
            have := List.mem_of_getElem? hs
            rw [List.mem_replicate] at this
            rw [this.2]
            trivial
    refine ⟨[p], _, [js], hR, x, e1, ?_⟩
    have kp : ∀ {T' : List Addr} {H' : Hp}, Fr [p] H T' H' → ∀ b o, b ≠ p → H b = some o → H' b = some o := fun f b o n e => f.keep b o (fun z => n (List.mem_singleton.mp z)) e
    have lst : ∀ {T' : List Addr} {io' : IO} {H' : Hp}, Fr [p] H T' H' → IoOk K T' io' H' → io'.take 1 = [js'] → ∃ xs', H' p = some (.lst xs') ∧ DdAll K (out [p] H') xs' js' ∧ imAll js' = true := fun {T' io' H'} f i et => by
      obtain ⟨l, el⟩ := f.pre
      have hp' : T'[0]? = some p := by rw [el]; rfl
      obtain ⟨es, ys, w1, w2, w3, w4⟩ := i.at_ 0 p hp'
      have : es = js' := by
        cases io' with
        | nil => simp at w1
        | cons a b =>
          simp only [List.getElem?_cons_zero, Option.some.injEq] at w1
          simp only [List.take_succ_cons, List.take_zero, List.cons.injEq, and_true] at et
          rw [← w1, et]
      subst this
      exact ⟨ys, w2, w3.mono (out_one (List.mem_iff_getElem?.mpr ⟨0, hp'⟩)), w4⟩
    cases x with
    | nx sl' io' =>
      simp only [finish] at e2
      cases e2
      split at e3
      · rename_i jz hz
        cases e3
        exact fun T' σ' H' hr hf => q _ H' (kp hf) (lst hf hr.io hz) ⟨.non, rfl⟩
      · cases e3
    | rt a io' =>
      refine fun T' v H' i' hf hv => ?_
      obtain ⟨f1, f2⟩ := fin_ok (T0 := [p]) i' hf hv e2
      split at e3
      · rename_i jz hz
        cases e3
        exact q v H' (kp hf) (lst hf i' f2.symm) f1
      · cases e3
    | bk sl' io' => cases e2
    | ct sl' io' => cases e2
  · cases e
end
section
variable {P : Program} {w : World} {K : PySem.W.Frag} {mg : Str → Option Value} {base : Heap}
theorem spD_len {np ns : Nat} {body : DS} {ps : List Str} (h : ps.length = np) : ∀ vs H Q E, spD K (runD np ns body) vs H Q E → vs.length = ps.length := fun vs H Q E ⟨ds, r, hd, e, _⟩ => by
  unfold runD at e
  split at e
  · rename_i hl
    rw [hd.length, h, hl]
  · cases e
theorem spJ_len {np ns : Nat} {body : DS} {ps : List Str} (h : ps.length = np) : ∀ vs H Q E, spJ K (runJ np ns body) vs H Q E → vs.length = ps.length := fun vs H Q E ⟨p, vs', xs, js, ds, r, js', e0, _, _, _, hd, e, _⟩ => by
  unfold runJ at e
  split at e
  · rename_i hl
    rw [e0, List.length_cons, hd.length, h, hl]
  · cases e
/-- THE RULE of a def of data -/
theorem okD {x qual : Str} {st : Stmt} {f : Addr} {fd : FuncData} {N ps : List Str} {k np : Nat} {body : DS} (F : Fun K x qual st f fd) (Sc : FnScope N ps (defScope st)) (hps : ps.length = np)
    (hbody : ∀ (cdv : Value) (A : Around) (outer : List Env) (s : Shared) (H : Hp) (E : XK), Room k (A.deeper (envOfC qual (defScope st) s.heap.objs.size f cdv)) →
      PSs (cxOf CX0 P w K mg base N qual (defScope st) f cdv A outer s H E).nox (defBody st) (tS K body)) : FnOk P w K mg base CX0 (k + 1) f fd ps (spD K (runD np N.length body)) :=
  F.ok Sc (spD_len hps) fun cdv A outer s H vs Q E hr h => ⟨_, hbody cdv A outer s H E hr, runD_ok (E := E) h⟩
theorem okJ {x qual : Str} {st : Stmt} {f : Addr} {fd : FuncData} {N ps : List Str} {k np : Nat} {body : DS} (F : Fun K x qual st f fd) (Sc : FnScope N ps (defScope st)) (hps : ps.length = np)
    (hbody : ∀ (cdv : Value) (A : Around) (outer : List Env) (s : Shared) (H : Hp) (E : XK), Room k (A.deeper (envOfC qual (defScope st) s.heap.objs.size f cdv)) →
      PSs (cxOf CX0 P w K mg base N qual (defScope st) f cdv A outer s H E).nox (defBody st) (tS K body)) : FnOk P w K mg base CX0 (k + 1) f fd ps (spJ K (runJ np N.length body)) :=
  F.ok Sc (spJ_len hps) fun cdv A outer s H vs Q E hr h => ⟨_, hbody cdv A outer s H E hr, runJ_ok (E := E) h⟩
end
end DD
set_option Elab.async false
set_option linter.all false
set_option maxRecDepth 100000
set_option maxHeartbeats 2000000
/-! DD: repr (nothing is being written around), defs that need that, the law's own def, the end of a row. -/
namespace DD
open PySem PySem.Spec PyProof.Rows L2

def reprD : List D → Option A
  | [.none] => some (.dat (.str (PyData.shown .none)))
  | [.bool b] => some (.dat (.str (PyData.shown (.bool b))))
  | [.int i] => if i.natAbs < 1000000 then some (.dat (.str (PyData.shown (.int i)))) else none
  | [.str s] => if (PyData.shown (.str s)).length ≤ LIM then some (.dat (.str (PyData.shown (.str s)))) else none
  | [.tuple ds] => if PyData.showable (.tuple ds) && !PyData.hasDict (.tuple ds) && decide ((PyData.shown (.tuple ds)).length ≤ LIM) && decide (PyData.depth (.tuple ds) ≤ 64) then some (.dat (.str (PyData.shown (.tuple ds)))) else none
  | [.list ds] => if PyData.showable (.list ds) && !PyData.hasDict (.list ds) && decide ((PyData.shown (.list ds)).length ≤ LIM) && decide (PyData.depth (.list ds) ≤ 64) then some (.dat (.str (PyData.shown (.list ds)))) else none
  | _ => none
section
variable {X : Cx}
theorem repr_ref {pins : List (Addr × Obj)} {s : Shared} {σ : L2.St} {H : Hp} {p : Addr} {d : D} {Q : VK} (hG : X.A.guards = some []) (hu : X.A.units + 66 < cLine) (I : Inv X pins σ H s) (hd : Dd X.K H (.ref p) d)
    (h1 : PyData.showable d = true) (h2 : PyData.hasDict d = false) (h3 : (PyData.shown d).length ≤ LIM) (h4 : PyData.depth d ≤ 64) (q : Q (.str (PyData.shown d)) H) : wpAny (model X.prog X.w) X.A (call (.builtin "repr") [.ref p]) (EP X pins σ Q) X.xe s := by
  obtain ⟨as, hr⟩ := Dp.reads I d (.ref p) (.ref p) hd.dp rfl
  exact repr_of_reads' hr h1 (fun z => by rw [h2] at z; cases z) hG (by omega) (fun _ _ e => e) (fun h' u tk hk => ⟨.str (PyData.shown d), H, I.kept hk, ⟨u, rfl⟩, q⟩) (lim_le h3)
theorem call_reprD (hG : X.A.guards = some []) (hu : X.A.units + 66 < cLine) : CallR X (.builtin "repr") (rC X.K reprD) := by
  intro pins s σ H xs us Q I r ⟨T, ds, a, hx, ht, ho, q⟩
  have one1 : ∀ {d : D}, VwAll X.K T H xs [d] → ∃ v u, xs = [v] ∧ us = [u] ∧ RelV v u ∧ VwOk X.K T H v d := fun {d} hx => by
    cases hx with
    | cons h1 hn =>
      cases hn
      obtain ⟨u, rfl, ru⟩ := r.one
      exact ⟨_, u, rfl, rfl, ru, h1⟩
  unfold reprD at ho
  split at ho
  · cases ho
    obtain ⟨v, u, rfl, rfl, ru, hv⟩ := one1 hx
    cases hv.non; cases ru
    exact PySem.P.repr_of_none ⟨.str _, H, I.tok _, ⟨_, rfl⟩, q _ H (Ex.refl _) (.str _)⟩
  · cases ho
    obtain ⟨v, u, rfl, rfl, ru, hv⟩ := one1 hx
    cases hv.bl; cases ru
    exact PySem.P.repr_of_bool ⟨.str _, H, I.tok _, ⟨_, rfl⟩, q _ H (Ex.refl _) (.str _)⟩
  · split at ho
    · cases ho
      obtain ⟨v, u, rfl, rfl, ru, hv⟩ := one1 hx
      cases hv.int
      obtain ⟨t, rfl⟩ := ru
      exact PySem.P.repr_of_int (log2_small (by assumption)) ⟨.str _, H, I.tok _, ⟨_, rfl⟩, q _ H (Ex.refl _) (.str _)⟩
    · cases ho
  · split at ho
    · cases ho
      obtain ⟨v, u, rfl, rfl, ru, hv⟩ := one1 hx
      cases hv.str
      obtain ⟨t, rfl⟩ := ru
      exact PySem.P.repr_of_str ⟨.str _, H, I.tok _, ⟨_, rfl⟩, q _ H (Ex.refl _) (.str _)⟩ (lim_le (by assumption))
    · cases ho
  · split at ho
    · rename_i hc
      simp only [Bool.and_eq_true, Bool.not_eq_true', decide_eq_true_eq] at hc
      cases ho
      obtain ⟨v, u, rfl, rfl, ru, hv⟩ := one1 hx
      obtain ⟨p, ys, rfl, hp, hd⟩ := hv.tup
      cases ru
      exact repr_ref hG hu I hv.dd hc.1.1.1 hc.1.1.2 hc.1.2 hc.2 (q _ H (Ex.refl _) (.str _))
    · cases ho
  · split at ho
    · rename_i hc
      simp only [Bool.and_eq_true, Bool.not_eq_true', decide_eq_true_eq] at hc
      cases ho
      obtain ⟨v, u, rfl, rfl, ru, hv⟩ := one1 hx
      obtain ⟨p, ys, rfl, hp, hd⟩ := hv.lst
      cases ru
      exact repr_ref hG hu I hv.dd hc.1.1.1 hc.1.1.2 hc.1.2 hc.2 (q _ H (Ex.refl _) (.str _))
    · cases ho
  · cases ho
end

/-! ### defs called where no repr is under way -/
structure FnG (P : Program) (w : World) (K : PySem.W.Frag) (mg : Str → Option Value) (base : Heap) (CX : CXT) (k : Nat) (f : Addr) (fd : FuncData) (ps : List Str) (sp : Sp) : Prop where
  len : ∀ vs H Q E, sp vs H Q E → vs.length = ps.length
  run : ∀ (A : Around) (outer : List Env) (s : Shared) (H : Hp) (args : Args) (us : List Value) (vs : List V) (Q : VK) (E : XK), A.guards = some [] → Room k A → Env0 P w K mg base A outer s H → BindsTo s fd args (ps.zip us) → Vals vs us → sp vs H Q E →
    codeAny (model P w) A (.call (.ref f) args) (CR CX outer P w H s Q E) s
theorem FnG.of {P : Program} {w : World} {K : PySem.W.Frag} {mg : Str → Option Value} {base : Heap} {CX : CXT} {k : Nat} {f : Addr} {fd : FuncData} {ps : List Str} {sp : Sp} (F : FnOk P w K mg base CX k f fd ps sp) : FnG P w K mg base CX k f fd ps sp :=
  ⟨F.len, fun A outer s H args us vs Q E _ hr he hb hv hs => F.run A outer s H args us vs Q E hr he hb hv hs⟩
section
variable {X : Cx} {f g : DE}
theorem run_fnG {CX : CXT} {k : Nat} {fa : Addr} {fd : FuncData} {ps : List Str} {sp : Sp} {E : XK} {pins : List (Addr × Obj)} {σ : L2.St} {H : Hp} {s : Shared} {Q : VK} {us ws : List Value} {kw : List (Str × Value)} {vs : List V} (F : FnG X.prog X.w X.K X.mg X.base CX k fa fd ps sp) (hG : X.A.guards = some []) (hr : Room k X.A)
    (hx : Passes CX X E) (I : Inv X pins σ H s) (hb : BindsTo s fd ⟨us, kw⟩ (ps.zip ws)) (r : Vals vs ws) (h : sp vs H Q E) : wpAny (model X.prog X.w) X.A (call (.ref fa) us kw) (EP X pins σ Q) X.xe s :=
  wpAny_call (codeAny_mono (F.run X.A X.stack s H ⟨us, kw⟩ ws vs Q E hG hr I.env0 hb r h) fun r s' hq => match r, hq with
    | .error e, hq => hx pins σ H s e s' I hq
    | .ok (.ret _), hq => I.after hq
    | .ok .next, hq => False.elim hq
    | .ok .brk, hq => False.elim hq
    | .ok .cont, hq => False.elim hq)
theorem pd_fnG {CX : CXT} {k : Nat} {fa : Addr} {fd : FuncData} {ps : List Str} {E : XK} {x : Str} {p pos : Pos} {e : Expr} {es : List Expr} {F : List D → Option A} {g : DA} (G : FnG X.prog X.w X.K X.mg X.base CX k fa fd ps (spD X.K F)) (hG : X.A.guards = some []) (hr : Room k X.A) (hg : Gl X x) (hm : X.mg x = some (.ref fa)) (hk : PySem.W.keepIn X.K (.ref fa) = true) (hb : Binds X.K fd ps []) (hx : Passes CX X E)
    (ha : PA X (e :: es) (tA X.K g)) (hdb : (x == ("__debug__" : Str)) = false := by decide) (he : starEach (e :: es) X.env = (false, eval e X.env) :: starEach es X.env := by rfl) (hpl : (backTo pos (starEach es X.env)).any (·.1) = false := by rfl) :
    PE X (.Call (.Name x p) (e :: es) [] pos) (tE X.K (dFn F g)) := by
  refine ⟨fun pins s σ H Q I hh => ?_⟩
  have h2 : tA X.K g σ H fun vs H1 => spD X.K F vs H1 Q E := by
    have := fn_run (E := E) hh
    unfold tCall at this
    simpa only [List.append_nil] using this
  refine wpAny_Call_Name_kw (ld_glob I hg hm ?_ hdb)
  refine PySem.W.callWith_K (h₀ := X.base) I.ok.mod.kin hk (thn (ha.run pos pins s σ H _ I h2) fun us s1 hv => ?_) he hpl
  obtain ⟨vs, H1, I1, r, q⟩ := hv
  have hl : (us ++ []).length = ps.length := by
    rw [List.append_nil, ← r.length]; exact G.len _ _ _ _ q
  have hb1 := hb s1 us I1.kIn hl
  rw [List.append_nil] at hb1
  exact ⟨I1.kIn, run_fnG (E := E) G hG hr hx I1 hb1 r q⟩
end
section
variable {P : Program} {w : World} {K : PySem.W.Frag} {mg : Str → Option Value} {base : Heap}
/-- a def's promise by its body, where no repr is under way -/
theorem okG {x qual : Str} {st : Stmt} {f : Addr} {fd : FuncData} {N ps : List Str} {k : Nat} {sp : Sp} {body : DS} (F : Fun K x qual st f fd) (Sc : FnScope N ps (defScope st)) (hlen : ∀ vs H Q E, sp vs H Q E → vs.length = ps.length)
    (hstart : ∀ vs H Q E, sp vs H Q E → tS K body { nx := fun _ H' => Q .non H', rt := Q } (L2.start N vs) H)
    (hbody : ∀ (cdv : Value) (A : Around) (outer : List Env) (s : Shared) (H : Hp) (E : XK), A.guards = some [] → Room k (A.deeper (envOfC qual (defScope st) s.heap.objs.size f cdv)) →
      PSs (cxOf CX0 P w K mg base N qual (defScope st) f cdv A outer s H E).nox (defBody st) (tS K body)) : FnG P w K mg base CX0 (k + 1) f fd ps sp := by
  obtain ⟨oc, od, kV, doc, pm, an, cdv, ct, osl, rfl, lk, hcd⟩ := F.ex
  refine ⟨hlen, fun A outer s H args us vs Q E hG hr e0 hb r hsp => ?_⟩
  have inS : ∀ b o, base.get? b = some o → s.heap.get? b = some o := fun b o e => (e0.bs b o e).1
  have KX : K.In s.heap := e0.mod.kin.keeps inS
  refine codeAny_call_function hr.depth (KX _ _ lk) rfl Sc.co Sc.gen rfl (PySem.W.codeRec_of KX hcd) (hb _ _ _ _ (wpAny_newFunctionEnv_cells Sc.kind (fun y hy => ?_) fun env he s1 x => ?_))
  · exact (Sc.par y.1 (List.of_mem_zip hy).1).imp id fun z => ⟨z, PySem.W.cellsFrom_some _ _ _ (.inl z)⟩
  · subst he
    have I : Inv (cxOf CX0 P w K mg base N qual (defScope st) f cdv A outer s H E) [] (L2.start N vs) H s1 := inv_start Sc hr.hd e0 (hlen _ _ _ _ hsp) r x
    refine ⟨(e0.mod.nolimit.keeps inS).keeps x.toInCall.keep, codeAny_func (wpAny_mono (((hbody cdv A outer s H E hG (hr.deeper _)).nox).run [] s1 (L2.start N vs) H _ I (hstart _ _ _ _ hsp)) (fun fl s' hs => ?_) fun e s' hs => hs)⟩
    match fl, hs with
    | .ret u, ⟨v, σ', H', J, rv, q⟩ => exact ⟨v, H', J.os, J.bare, J.base, J.hok, rv, q⟩
    | .next, ⟨σ', H', J, q⟩ => exact ⟨.non, H', J.os, J.bare, J.base, J.hok, rfl, q⟩
    | .brk, ⟨_, _, _, q⟩ => exact q.elim
    | .cont, ⟨_, _, _, q⟩ => exact q.elim
theorem okDG {x qual : Str} {st : Stmt} {f : Addr} {fd : FuncData} {N ps : List Str} {k np : Nat} {body : DS} (F : Fun K x qual st f fd) (Sc : FnScope N ps (defScope st)) (hps : ps.length = np)
    (hbody : ∀ (cdv : Value) (A : Around) (outer : List Env) (s : Shared) (H : Hp) (E : XK), A.guards = some [] → Room k (A.deeper (envOfC qual (defScope st) s.heap.objs.size f cdv)) →
      PSs (cxOf CX0 P w K mg base N qual (defScope st) f cdv A outer s H E).nox (defBody st) (tS K body)) : FnG P w K mg base CX0 (k + 1) f fd ps (spD K (runD np N.length body)) :=
  okG F Sc (spD_len hps) (fun vs H Q E h => runD_ok (E := E) h) hbody
/-! the law's own def -/
def runLaw (ns : Nat) (body : DS) : List Int → Option Bool := fun xs => (body (slots ns [.scr xs]) []).bind fun r => match r with
  | .rt (.dat (.bool b)) _ => some b
  | _ => none
def spLaw (K : PySem.W.Frag) (F : List Int → Option Bool) : Sp := fun vs H Q _ => ∃ a xs, vs = [.ref a] ∧ SqL K H a (xs.map V.int) ∧ F xs = some true ∧ ∀ H', Q (.bl true) H'
theorem runLaw_ok {N : List Str} {body : DS} {vs : List V} {H : Hp} {Q : VK} {E : XK} (h : spLaw K (runLaw N.length body) vs H Q E) : tS K body { nx := fun _ H' => Q .non H', rt := Q } (L2.start N vs) H := by
  obtain ⟨a, xs, rfl, ha, e, q⟩ := h
  unfold runLaw at e
  simp only [Option.bind_eq_some_iff] at e
  obtain ⟨r, e1, e2⟩ := e
  have hR : Rel K [] (L2.start N [.ref a]) (slots N.length [.scr xs]) [] H := by
    refine ⟨?_, fun i s hs => ?_, ⟨.nil, rfl, fun k p hp => by simp at hp⟩⟩
    · unfold slots L2.start; simp
    · unfold slots at hs
      unfold L2.start
      cases i with
      | zero =>
        simp only [List.cons_append, List.getElem?_cons_zero] at hs
        cases hs
        exact ⟨a, rfl, by rw [out_nil]; exact ha⟩
      | succ i =>
        simp only [List.cons_append, List.getElem?_cons_succ, List.nil_append] at hs
        have := List.mem_of_getElem? hs
        rw [List.mem_replicate] at this
        rw [this.2]
        trivial
  refine ⟨[], _, [], hR, r, e1, ?_⟩
  split at e2
  · rename_i b io
    cases e2
    intro T' v H' i' hf hv
    have hv' : Dd K (out T' H') v (.bool true) := hv
    cases hv'
    exact q H'
  · cases e2
theorem spLaw_len {F : List Int → Option Bool} : ∀ vs H Q E, spLaw K F vs H Q E → vs.length = (["script"] : List Str).length := fun vs H Q E ⟨a, xs, e, _⟩ => by rw [e]; rfl
end
def FUEL : Nat := 3000
def eqO : D → D → Option A := fun d e => (eqD d e).map blA
def neO : D → D → Option A := fun d e => (eqD d e).map fun b => blA (!b)
def inO : D → D → Option A := fun d e => (inD d e).map blA
def ninO : D → D → Option A := fun d e => (inD d e).map fun b => blA (!b)
theorem _root_.L2.Room.u66 {k : Nat} {A : Around} (r : Room k A) : A.units + 66 < cLine := by have := r.un; omega
/-! ### the end of a row -/
section
/-- the abstract heap at the law's entry: the script alone, if it is none of the module's own objects -/
def only (K : PySem.W.Frag) (a : Addr) (vs : List Value) (ns : List Int) : Hp := fun b => match K.lookup a with
  | some _ => none
  | none => if b = a then some (.frz { cls := .type "list", data := .seq vs.toArray } (.lst (ns.map V.int))) else none
theorem only_cases {K : PySem.W.Frag} {a b : Addr} {vs : List Value} {ns : List Int} : only K a vs ns b = none ∨ (b = a ∧ K.lookup a = none ∧ only K a vs ns b = some (.frz { cls := .type "list", data := .seq vs.toArray } (.lst (ns.map V.int)))) := by
  unfold only
  cases K.lookup a with
  | some o => exact .inl rfl
  | none =>
    by_cases h : b = a
    · exact .inr ⟨h, rfl, if_pos h⟩
    · exact .inl (if_neg h)
theorem law_callG {P : Program} {w : World} {K : PySem.W.Frag} {mg mb : Str → Option Value} {k : Nat} {fa a : Addr} {fd : FuncData} {x : Str} {Fl : List Int → Option Bool} {s₁ : Shared} {vs : List Value} {ns : List Int}
    (KX : K.In s₁.heap) (hns : s₁.heap.Ns mainGlobals mg) (hb : s₁.heap.Ns builtinsNs mb) (hbb : ∀ x : Str, x ≠ "__name__" → mb x = bootBuiltins x) (hlim : s₁.heap.NoLimit) (hg : s₁.gens = #[])
    (ha : s₁.heap.get? a = some { cls := .type "list", data := .seq vs.toArray }) (hi : IntsAre vs ns) (hl : ns.length ≤ sizeLine) (hr : Room k callerA)
    (F : ∀ base : Heap, K.In base → base.Ns mainGlobals mg → FnG P w K mg base CX0 k fa fd [x] (spLaw K Fl)) (hbind : ∀ (s : Shared) (u : Value), BindsTo s fd ⟨[u], []⟩ [(x, u)]) (hF : Fl ns = some true) :
    codeAny (model P w) callerA (.call (.ref fa) ⟨[.ref a], []⟩) (fun r s' => r = .ok (.ret (.bool true)) ∧ OldK s₁.heap s'.heap ∧ s'.os = s₁.os ∧ AllBare s'.gens) s₁ := by
  have rv : Vals (ns.map V.int) vs := vals_ints hi
  let H := only K a vs ns
  have hdict : ∀ {b : Addr} {o : Obj} {es : Array DictEntry} {ep : Nat}, s₁.heap.get? b = some o → o.data = .dict es ep → H b = none := fun {b o es ep} e d => by
    rcases only_cases (K := K) (a := a) (b := b) (vs := vs) (ns := ns) with h | ⟨rfl, _, _⟩
    · exact h
    · rw [ha] at e
      cases e
      have d' : Data.seq vs.toArray _ = Data.dict es ep := d
      cases d'
  have ground : ∀ {b : Addr} {m : Str → Option Value}, s₁.heap.Ns b m → (hidT s₁.heap H).Ns b m := fun {b m} ⟨o, es, ep, e, d, r⟩ => ⟨o, es, ep, hidT_get e (hdict e d), d, r⟩
  have inB : K.In (hidT s₁.heap H) := fun b o e => hidT_get (KX b o e) (by
    rcases only_cases (K := K) (a := a) (b := b) (vs := vs) (ns := ns) with h | ⟨rfl, h, _⟩
    · exact h
    · rw [h] at e; cases e)
  have hok : HOk P w H s₁.heap := fun b o e => by
    rcases only_cases (K := K) (a := a) (b := b) (vs := vs) (ns := ns) with h | ⟨rfl, _, h⟩
    · have z : (none : Option HO) = some o := h.symm.trans e
      cases z
    · have z := Option.some.inj (h.symm.trans e)
      subst z
      exact ⟨ha, by rw [List.length_map]; exact hl, vs, _, rv, ha⟩
  have hS : SqL K H a (ns.map V.int) := by
    cases q : K.lookup a with
    | some o =>
      have e := KX a o q
      rw [ha] at e
      cases e
      exact .inr ⟨_, vs.toArray, _, q, rfl, rfl, rfl, by rw [List.size_toArray, ← rv.length, List.length_map]; exact hl, by rw [List.toList_toArray]; exact rv⟩
    | none =>
      refine .inl (.inr ⟨{ cls := .type "list", data := .seq vs.toArray }, ?_⟩)
      show only K a vs ns a = _
      unfold only
      rw [q]
      exact if_pos rfl
  obtain ⟨mc, c1, c2⟩ := hlim
  have hM : Mod K mg (hidT s₁.heap H) := ⟨inB, ground hns, ⟨mb, ground hb, hbb⟩, ⟨mc, ground c1, c2⟩⟩
  have e0 : Env0 P w K mg (hidT s₁.heap H) callerA [] s₁ H := ⟨rfl, hM, fun b o e => of_hidT e, Nat.le_of_eq (hidT_size _ _), trivial, fun b hb => absurd (show b ∈ ([] : List Addr) from hb) (by simp), hok, AllBare.of_eq hg⟩
  have hsp : spLaw K Fl [.ref a] H (fun v _ => v = .bl true) E0 := ⟨a, ns, rfl, hS, hF, fun _ => rfl⟩
  refine codeAny_mono ((F _ inB (ground hns)).run callerA [] s₁ H ⟨[.ref a], []⟩ [.ref a] [.ref a] _ _ rfl hr e0 (hbind s₁ (.ref a)) (.cons rfl .nil) hsp) fun r s' h => ?_
  match r, h with
  | .error e, h => exact False.elim h
  | .ok .next, h => exact False.elim h
  | .ok .brk, h => exact False.elim h
  | .ok .cont, h => exact False.elim h
  | .ok (.ret u), ⟨v, H', os, bare, un, hok', r', q⟩ =>
    have q' : v = .bl true := q
    subst q'
    obtain rfl : u = Value.bool true := r'
    refine ⟨rfl, OldK.of_keep fun b o e => ?_, os, bare⟩
    rcases only_cases (K := K) (a := a) (b := b) (vs := vs) (ns := ns) with h | ⟨rfl, _, h⟩
    · exact un.keep b o e h (by intro z; exact absurd (show b ∈ ([] : List Addr) from z) (by simp)) (by simp)
    · have z2 := un.frzs b _ _ h
      obtain ⟨e1, _⟩ := hok b _ h
      obtain ⟨e2, _⟩ := hok' b _ z2
      rw [e] at e1
      cases e1
      exact e2
/-- the goal that k_head leaves, from the law's promise over data -/
theorem walkG {l : PySem.W.OpenLaw} {n k : Nat} {q : Program} {loose : List Str} {XP : (Str → Option Value) → Heap → Prop} {YP : World → Heap → Prop} {d : DefRec} {K : Params → PySem.W.Frag} {Fl : List Int → Option Bool} {x : Str}
    (hn : l.most = some n) (hn2 : n ≤ sizeLine) (hdf : d.params.defaults = []) (hr : Room k callerA)
    (hY : ∀ (w : World) (h : Heap), YP w h → (K w.params).In h)
    (F : ∀ (w : World) (mg : Str → Option Value) (fa : Addr) (h : Heap), (K w.params).In h → h.Ns mainGlobals mg → mg d.name = some (.ref fa) →
      ∃ fd : FuncData, (∀ (s : Shared) (u : Value), BindsTo s fd ⟨[u], []⟩ [(x, u)]) ∧
        ∀ base : Heap, (K w.params).In base → base.Ns mainGlobals mg → FnG l.prog w (K w.params) mg base CX0 k fa fd [x] (spLaw (K w.params) Fl))
    (hF : ∀ ns : List Int, ns.length ≤ n → Fl ns = some true) :
    PySem.W.WalkO q loose XP YP l.row.toRowW d [] (fun f vs => PySem.call f vs) := by
  refine Att.attach_call hn hdf fun w s₀ s₁ mg mb fa o pm cd doc a vs ns G Y ho hd hcd hmg hobj hints hlen hg => ?_
  obtain ⟨fd, hb, hG⟩ := F w mg fa _ (hY w _ Y) G.T.g hmg
  exact law_callG (hY w _ Y) G.T.g G.T.b G.T.builtins G.T.nolimit hg hobj hints (Nat.le_trans hlen hn2) hr hG hb (hF ns hlen)
end
end DD
set_option Elab.async false
set_option linter.all false
set_option maxRecDepth 100000
set_option maxHeartbeats 4000000
/-! DD: more operators: tuple times int, is with a truth value, str of None. -/
namespace DD
open PySem PySem.Spec PyProof.Rows L2
theorem tuple_mul1 (l : Addr) (items : Array Value) (n : Nat) (dd : Option Addr) (sl : Array (Option Value)) (u : Tok) :
    Meets (Builtin.«tuple.__mul__» ⟨[.ref l, .int 1 u], []⟩) (fun _ R s => s.heap.get? l = some { cls := .type "tuple", dict := dd, data := .seq items n, slots := sl } ∧
      R (.ok (.ret (Value.ref l))) s) :=
  .of_wp fun prog w A R s h => by
    obtain ⟨hp, g, d, tk, os⟩ := s
    obtain ⟨hl, h⟩ := h
    have f1 := AutoSeq1.idx_int
    have c0 : (decide ((1 : Int) < -(2 ^ 63)) || decide ((1 : Int) ≥ 2 ^ 63)) = false := by decide
    have c1 : (items.isEmpty || (1 : Int) == 1) = true := by simp
    wp_walk using wpAny_loadPart' hl
    repeat (first
      | (refine wpAny_ite_false (decide_eq_false (by rw [c0]; exact Bool.false_ne_true)) ?_; wp_walk using wpAny_loadPart' hl)
      | (refine wpAny_ite_true (decide_eq_true c1) ?_; wp_walk using wpAny_loadPart' hl))
    exact ⟨_, rfl, h⟩
section
variable {X : Cx}
theorem op_repT1 : OpR X (binaryOp .Mult) (fun x y H Q => ∃ l xs, x = .ref l ∧ y = .int 1 ∧ SqT X.K H l xs ∧ Q (.ref l) H) := by
  intro pins s σ H x y v u Q I rx ry h
  obtain ⟨l, xs, rfl, rfl, hT, q⟩ := h
  cases rx
  obtain ⟨t, rfl⟩ := ry
  obtain ⟨its, r, ⟨⟨cls, dd, data, sl⟩, ho, hc, n, hd⟩, hs⟩ := I.tuple hT
  simp only at hc hd
  subst hc hd
  refine wpAny_binaryOp_repeat_ref (T := "tuple") (U := "int") (by decide) ⟨_, ho, rfl⟩ (fun s' => typeIs_int s' 1 t) noFill_tuple_mul F.fills_int_mul F.slot_int_rmul repeat_tuple F.slot_int_index.lookup
    (call_meets F.slot_int_rmul (typeIs_int s 1 t) F.entry_int_rmul (F.args_int_rmul_2 _ _) (int_rmul_tuple 1 t l its.toArray n dd sl)
      ⟨ho, rfl, ⟨_, ho, rfl⟩, call_meets F.slot_tuple_mul ⟨_, ho, rfl⟩ F.entry_tuple_mul (F.args_tuple_mul_2 _ _) (tuple_mul1 l its.toArray n dd sl t) ⟨ho, ?_⟩⟩)
  exact ⟨.ref l, H, I, rfl, q⟩
def mulTD : D → D → Option A
  | .tuple (x :: xs), .int k => if k = 1 then some (.dat (.tuple (x :: xs))) else if 2 ≤ k ∧ k ≤ 1000 ∧ (x :: xs).length ≤ 1000 then some (.dat (.tuple (List.replicate k.toNat (x :: xs)).flatten)) else none
  | _, _ => none
theorem op_mulTD : OpR X (binaryOp .Mult) (rO X.K mulTD) := by
  intro pins s σ H x y v u Q I rx ry ⟨T, d, e, r, hx, hy, ht, ho, q⟩
  unfold mulTD at ho
  split at ho
  · cases hy.int
    obtain ⟨p, xs, rfl, hp, hd⟩ := hx.tup
    split at ho
    · rename_i hk
      subst hk
      cases ho
      exact op_repT1 pins s σ H _ _ v u Q I rx ry ⟨p, xs, rfl, rfl, Evl.ex_t out_ex hp, q _ H (Ex.refl _) (.tup hp hd)⟩
    · split at ho
      · rename_i hk
        cases ho
        refine op_repT pins s σ H _ _ v u Q I rx ry ⟨p, _, xs, rfl, rfl, Evl.ex_t out_ex hp, ?_, hk.1, hk.2.1, by rw [hd.length]; exact hk.2.2, fun z hz => q _ _ (Ex.new hz) (dd_newT hz (ht z hz) (hd.rep _))⟩
        rintro rfl
        cases hd
      · cases ho
  · cases ho
def isntB : D → D → Option A
  | .bool a, .bool b => some (blA (!decide (a = b)))
  | _, _ => none
theorem op_isntB : OpR X (compareOp .IsNot) (rO X.K isntB) := by
  intro pins s σ H x y v u Q I rx ry ⟨T, d, e, r, hx, hy, ht, ho, q⟩
  unfold isntB at ho
  split at ho
  · cases ho; cases hx.bl; cases hy.bl
    exact op_isnot_bl pins s σ H _ _ v u Q I rx ry ⟨_, _, rfl, rfl, q _ H (Ex.refl _) (.bl _)⟩
  · cases ho
def isB : D → D → Option A
  | .bool a, .bool b => some (blA (decide (a = b)))
  | _, _ => none
theorem op_isB : OpR X (compareOp .Is) (rO X.K isB) := by
  intro pins s σ H x y v u Q I rx ry ⟨T, d, e, r, hx, hy, ht, ho, q⟩
  unfold isB at ho
  split at ho
  · cases ho; cases hx.bl; cases hy.bl
    exact op_is_bl pins s σ H _ _ v u Q I rx ry ⟨_, _, rfl, rfl, q _ H (Ex.refl _) (.bl _)⟩
  · cases ho
theorem call_str_none : CallR X (.type "str") (fun xs H Q => xs = [.non] ∧ Q (.str "None") H) := by
  intro pins s σ H xs us Q I r h
  obtain ⟨rfl, q⟩ := h
  obtain ⟨u, rfl, r1⟩ := vals1 r
  cases r1
  exact PySem.P.str_of_none ⟨.str _, H, I.tok _, ⟨_, rfl⟩, q⟩
def strND : List D → Option A
  | [.int i] => if i.natAbs < 1000000 then some (.dat (.str (toString i))) else none
  | [.none] => some (.dat (.str "None"))
  | [.str x] => some (.dat (.str x))
  | _ => none
theorem call_strND : CallR X (.type "str") (rC X.K strND) := by
  intro pins s σ H xs us Q I r ⟨T, ds, a, hx, ht, ho, q⟩
  unfold strND at ho
  split at ho
  · split at ho
    · cases ho
      cases hx with
      | cons hx hn =>
        cases hn
        cases hx.int
        exact call_str_int pins s σ H _ us Q I r ⟨_, rfl, log2_small (by assumption), q _ H (Ex.refl _) (.str _)⟩
    · cases ho
  · cases ho
    cases hx with
    | cons hx hn =>
      cases hn
      cases hx.non
      exact call_str_none pins s σ H _ us Q I r ⟨rfl, q _ H (Ex.refl _) (.str _)⟩
  · cases ho
    cases hx with
    | cons hx hn =>
      cases hn
      cases hx.str
      exact SkE.call_str_str pins s σ H _ us Q I r ⟨_, rfl, q _ H (Ex.refl _) (.str _)⟩
  · cases ho
end
end DD
set_option Elab.async false
set_option linter.all false
set_option maxRecDepth 100000
set_option maxHeartbeats 4000000
/-! DD: enumerate of a tuple. -/
namespace DD
open PySem PySem.Spec PyProof.Rows L2
open AutoSeq1 (wpAny_loadPart')
section
variable {prog : Program} {w : World} {A : Around} {E : Value → Shared → Prop} {s : Shared}
theorem tnext_item {it tp : Addr} {i : Nat} {items : Array Value} {x : Value} {Q : Value → Shared → Prop} (hit : s.heap.IsTupleIter it tp i) (hl : s.heap.IsTuple tp items) (hx : items[i]? = some x)
    (hQ : ∀ h', h'.IsTupleIter it tp (i + 1) → Heap.SameBut it s.heap h' → Q x { s with heap := h' }) : wpAny (model prog w) A (Builtin.SmallTypes.nextOf (.ref it)) Q E s := by
  obtain ⟨o1, go, gc, gd⟩ := id hit
  obtain ⟨o2, go2, _, n2, gd2⟩ := hl
  unfold Builtin.SmallTypes.nextOf
  refine wpAny_bind (wpAny_callSpecial?_slot (name := Str.ofString "__next__") hit.typeIs F.slot_tuple_iterator_next (wpAny_call_entry F.slot_tuple_iterator_next hit.typeIs F.entry_tuple_iterator_next ?_ (F.args_tuple_iterator_next_1 _)))
  show wpAny _ _ (field (.ref it) 0 >>= _) _ _ s; refine wpAny_bind (wpAny_field go gd (x := .ref tp) rfl ?_)
  show wpAny _ _ (if (Value.ref tp == Value.none) = true then _ else _) _ _ s; rw [if_neg (show ¬ ((Value.ref tp == Value.none) = true) from Bool.false_ne_true)]
  show wpAny _ _ (field (.ref it) 1 >>= _) _ _ s; refine wpAny_bind (wpAny_field go gd (x := .int i 0) rfl ?_)
  show wpAny _ _ (seqItems? (.ref tp) >>= _) _ _ s; refine wpAny_bind (wpAny_seqItems go2 gd2 ?_)
  simp only [hx, Int.toNat_natCast]
  refine wpAny_bind (wpAny_setField go gd (by simp) (wpAny_pure ⟨x, rfl, wpAny_pure (hQ _ ?_ (Heap.SameBut.update ..))⟩)); refine ⟨_, Heap.get?_update_self _ go (Obj.isFreed_of_fields (Obj.data_mapFields gd _)), (Obj.cls_mapFields ..).trans gc, ?_⟩
  rw [Obj.data_mapFields gd]
  simp [rawInt]
theorem tnext_end {it tp : Addr} {i : Nat} {items : Array Value} {Q : Value → Shared → Prop} (hh : A.handled = none) (hit : s.heap.IsTupleIter it tp i) (hl : s.heap.IsTuple tp items) (hx : items[i]? = none)
    (hE : ∀ h' e, Heap.ExtBut it s.heap h' → (∃ o, h'.get? e = some o ∧ o.cls = .type "StopIteration") → E (.ref e) { s with heap := h' }) : wpAny (model prog w) A (Builtin.SmallTypes.nextOf (.ref it)) Q E s := by
  obtain ⟨o1, go, gc, gd⟩ := id hit
  obtain ⟨o2, go2, _, n2, gd2⟩ := hl
  unfold Builtin.SmallTypes.nextOf
  refine wpAny_bind (wpAny_callSpecial?_slot (name := Str.ofString "__next__") hit.typeIs F.slot_tuple_iterator_next (wpAny_call_entry F.slot_tuple_iterator_next hit.typeIs F.entry_tuple_iterator_next ?_ (F.args_tuple_iterator_next_1 _)))
  show wpAny _ _ (field (.ref it) 0 >>= _) _ _ s; refine wpAny_bind (wpAny_field go gd (x := .ref tp) rfl ?_)
  show wpAny _ _ (if (Value.ref tp == Value.none) = true then _ else _) _ _ s; rw [if_neg (show ¬ ((Value.ref tp == Value.none) = true) from Bool.false_ne_true)]
  show wpAny _ _ (field (.ref it) 1 >>= _) _ _ s; refine wpAny_bind (wpAny_field go gd (x := .int i 0) rfl ?_)
  show wpAny _ _ (seqItems? (.ref tp) >>= _) _ _ s; refine wpAny_bind (wpAny_seqItems go2 gd2 ?_)
  simp only [hx, Int.toNat_natCast]
  refine wpAny_bind (wpAny_rule (wpAny_bind (wpAny_setField go gd (by simp) ?_)))
  show wpAny _ _ (newExc (.type "StopIteration") [] >>= _) _ _ _; refine wpAny_bind ?_
  simp only [newExc, newTuple]; refine wpAny_bind (wpAny_newObj_type ?_ (by size_fits))
  refine wpAny_bind (m := firstArgMember _ _) (wpAny_of_eq (a := Value.none) (by first | (simp only [firstArgMember]; rfl) | rfl) ?_); refine wpAny_newObj_type ?_ (by size_fits)
  simp only [raiseNew]; refine wpAny_bind (wpAny_handled ?_)
  first | rw [hh] | rw [show A.in1.handled = none from hh]
  refine wpAny_bind (wpAny_pure (wpAny_throw ?_)); exact hE _ _ (((Heap.SameBut.update ..).extBut.push _).push _) ⟨_, Heap.get?_push_size _ rfl, rfl⟩
end
theorem tdraws {prog : Program} {w : World} {A : Around} (hh : A.handled = none) (it tp : Addr) (hne : tp ≠ it) (items : Array Value) : Draws prog w A it [it, tp] items.size (fun i v => items[i]? = some v) (fun i h => h.IsTupleIter it tp i ∧ h.IsTuple tp items) where
  live := fun _ _ st => by obtain ⟨⟨o, ho, _⟩, _⟩ := st; exact ⟨o, ho⟩
  frame := fun _ _ _ st hk => ⟨st.1.at fun o e => hk it (by simp) o e, by obtain ⟨o, ho, r⟩ := st.2; exact ⟨o, hk tp (by simp) o ho, r⟩⟩
  item := fun i s Q E hi st hQ => tnext_item st.1 st.2 (x := items[i]) (by simp [hi]) fun h' a b => hQ _ h' s.toks (by simp [hi]) ⟨a, st.2.extBut b.extBut hne⟩ b
  done := fun s Q E st hE => tnext_end hh st.1 st.2 (by simp) hE
theorem meets_enumT (l : Addr) (items : Array Value) (n : Nat) (dct : Option Addr) (sl : Array (Option Value)) :
    Meets (Builtin.«enumerate.__new__» ⟨[.type "enumerate", .ref l], []⟩) (fun _ R s => s.heap.get? l = some { cls := .type "tuple", dict := dct, data := .seq items n, slots := sl } ∧
      R (.ok (.ret (.ref (s.heap.push { cls := .type "tuple_iterator", data := .fields #[.ref l, .int 0 0] }).objs.size)))
        { s with heap := (s.heap.push { cls := .type "tuple_iterator", data := .fields #[.ref l, .int 0 0] }).push { cls := .type "enumerate", data := .fields #[.none, .bool false, .ref s.heap.objs.size, rawInt 0, .none, .none] } }) :=
  .of_wp fun prog w A R s h => by
    obtain ⟨hp, g, d, tk, os⟩ := s
    obtain ⟨hl, h⟩ := h
    have hsub := sub_enumerate
    have hT : Heap.IsTuple (Shared.heap ⟨hp, g, d, tk, os⟩) l items := ⟨_, hl, rfl, n, rfl⟩
    wp_walk using wpAny_loadPart' hl
    refine wpAny_stack_any fun st => wpAny_pure ?_
    split
    · rename_i c _ _ _ _ _
      cases (c == Value.type "enumerate") <;> (wp_walk using wpAny_loadPart' hl, wpAny_pyIter_tuple hT; exact ⟨_, rfl, h⟩)
    · wp_walk using wpAny_loadPart' hl, wpAny_pyIter_tuple hT
      exact ⟨_, rfl, h⟩
section
variable {prog : Program} {w : World} {A : Around} {E : Value → Shared → Prop} {s : Shared}
theorem call_enumT {l : Addr} {items : Array Value} {Q : Value → Shared → Prop} (hL : s.heap.IsTuple l items)
    (h : ∀ h', IsEnum h' (s.heap.objs.size + 1) s.heap.objs.size 0 .none → h'.IsTupleIter s.heap.objs.size l 0 → h'.objs.size = s.heap.objs.size + 2 → (∀ b o, s.heap.get? b = some o → h'.get? b = some o) → Q (.ref (s.heap.objs.size + 1)) { s with heap := h' }) :
    wpAny (model prog w) A (call (.type "enumerate") [.ref l]) Q E s := by
  obtain ⟨⟨c, dct, dt, sl⟩, hl, hc, n, hd⟩ := hL
  have hc' : c = .type "tuple" := hc
  have hd' : dt = .seq items n := hd
  subst hc' hd'
  refine callType_new F.called_enumerate (by decide) (F.typeCall_enumerate_1 _) (F.newCall_enumerate_1 _) (fun obj => F.args_object_init_2 obj _) F.entry_enumerate_new (meets_enumT l items n dct sl) ⟨hl, ?_⟩
  have hz : (s.heap.push { cls := .type "tuple_iterator", data := .fields #[.ref l, .int 0 0] }).objs.size = s.heap.objs.size + 1 := Heap.size_push ..
  show _ ∧ _
  rw [hz]
  have he : IsEnum ((s.heap.push { cls := .type "tuple_iterator", data := .fields #[.ref l, .int 0 0] }).push { cls := .type "enumerate", data := .fields #[.none, .bool false, .ref s.heap.objs.size, rawInt 0, .none, .none] }) (s.heap.objs.size + 1) s.heap.objs.size 0 .none := by
    have t := Heap.get?_push_size (s.heap.push { cls := .type "tuple_iterator", data := .fields #[.ref l, .int 0 0] }) (o := { cls := .type "enumerate", data := .fields #[.none, .bool false, .ref s.heap.objs.size, rawInt 0, .none, .none] }) rfl
    rw [hz] at t
    exact t
  exact ⟨⟨_, he, rfl⟩, h _ he ⟨_, Heap.get?_push_of_some _ (Heap.get?_push_size _ rfl), rfl, rfl⟩ (by rw [Heap.size_push, hz]) fun b o x => Heap.get?_push_of_some _ (Heap.get?_push_of_some _ x)⟩
theorem enumT_end {e it l : Addr} {i : Nat} {items : Array Value} {old : Value} {Q : Option Value → Shared → Prop} (hh : A.handled = none) (he : IsEnum s.heap e it i old) (hit : s.heap.IsTupleIter it l i) (hl : s.heap.IsTuple l items) (hx : items[i]? = none)
    (hQ : ∀ h', Heap.ExtBut it s.heap h' → Q none { s with heap := h' }) : wpAny (model prog w) A (pyNext (.ref e)) Q E s := by
  have ht : s.TypeIs (.ref e) "enumerate" := ⟨_, he, rfl⟩
  unfold pyNext
  refine wpAny_bind (wpAny_attempt (wpAny_callSpecial?_slot (name := Str.ofString "__next__") ht F.slot_enumerate_next (wpAny_call_entry F.slot_enumerate_next ht F.entry_enumerate_next ?_ (F.args_enumerate_next_1 _))))
  show wpAny _ _ (field (.ref e) 2 >>= _) _ _ _; refine wpAny_bind (wpAny_field he rfl (x := .ref it) rfl ?_)
  refine wpAny_bind (tnext_end hh hit hl hx fun h' x q1 ⟨o, ho, hc⟩ => ?_)
  exact wpAny_bind (wpAny_isInstance (T := "StopIteration") (b := true) ⟨o, ho, hc⟩ isSubtype_stop (wpAny_pure (hQ _ q1)))
end
def IteT (K : PySem.W.Frag) (a : Addr) : It :=
  ⟨fun i H => ∃ (xs : List V) (x : V), SqT K H a xs ∧ xs[i]? = some x, fun i H v H' => ∃ T x, v = .ref T ∧ H T = none ∧ H' = upd H T (.tup [.int (i : Nat), x]) ∧ ∀ xs, SqT K H a xs → xs[i]? = some x, fun i H => ∃ xs : List V, SqT K H a xs ∧ xs.length ≤ i⟩
theorem turn_enumT {P : Program} {w : World} {K : PySem.W.Frag} {elts : List Expr} {kk : Nat} {tpos : Pos} (a e it : Addr) (hai : a ≠ it) (hae : e ≠ a) :
    Turn P w K (.Tuple elts kk tpos) (IteT K a) [e, it] e (fun i h => (∃ old, IsEnum h e it ((i : Nat) : Int) old) ∧ h.IsTupleIter it a i ∧ e ≠ it) where
  mem := by simp
  obj := fun i h st b hb => by
    obtain ⟨⟨old, he⟩, ⟨o, ho, hc, hd⟩, _⟩ := st
    have e' : b = e ∨ b = it := by simpa using hb
    rcases e' with rfl | rfl
    · exact ⟨_, he, fun v q => nomatch q⟩
    · exact ⟨o, ho, fun v q => by rw [hd] at q; cases q⟩
  keep := fun i h h' st k => by
    obtain ⟨⟨old, he⟩, hi, hne⟩ := st
    exact ⟨⟨old, k e (by simp) _ he⟩, hi.at fun o q => k it (by simp) o q, hne⟩
  item := by
    intro X hP hw hK hc i pins s σ H E I hf st hg
    subst hP hw hK
    obtain ⟨⟨old, he⟩, hit, hne⟩ := st
    obtain ⟨xs, x, hq, hx⟩ := hg
    obtain ⟨its, rv, p, hz⟩ := I.tuple hq
    obtain ⟨u, hu, ru⟩ := rv.get hx
    have hel : e < s.heap.objs.size := Heap.lt_size he
    have hil : it < s.heap.objs.size := by obtain ⟨_, q, _⟩ := hit; exact Heap.lt_size q
    have hD := tdraws (prog := X.prog) (w := X.w) (A := X.A.in1) (I.ok.hd hc) it a hai its.toArray
    have hi : i < its.toArray.size := by
      have := (List.getElem?_eq_some_iff.mp hu).1
      simpa using this
    refine wpAny_pyNext_enum_itemD hD he ⟨hit, p⟩ hi hne (by simp [hne, hae]) fun y h' tk hP ho hs' hT hsz hk => ?_
    have hyu : y = u := by
      have h1 : its[i]? = some y := by simpa using hP
      rw [hu] at h1
      exact (Option.some.inj h1).symm
    subst hyu
    refine ⟨_, rfl, wpAny_letOwnedTupleGo_enum (s := { s with heap := h', toks := tk + 1 }) ho fun h'' he' sb => ?_⟩
    have hT2 : h''.get? s.heap.objs.size = some { cls := .type "tuple", data := .seq #[.int i tk, y] } := (sb.2 _ (Nat.ne_of_gt hel)).trans hT
    have new : ObjOk X.prog X.w (upd H s.heap.objs.size (.tup [.int (i : Nat), x])) h'' s.heap.objs.size (.tup [.int (i : Nat), x]) := ⟨by show 2 ≤ sizeLine; decide, [.int i tk, y], .cons ⟨_, rfl⟩ (.cons ru .nil), ⟨_, hT2, rfl, _, rfl⟩⟩
    have I1 : Inv X pins σ (upd H s.heap.objs.size (.tup [.int (i : Nat), x])) { s with heap := h'', toks := tk + 1 } :=
      I.turnedNew (ch := [e, it]) (fun b ob hb q => (sb.2 b (fun z => hb (by simp [z]))).trans (hk b ob (fun z => hb (by simp [z])) (fun z => hb (by simp [z])) q)) hf (Nat.le_refl _) new
    refine ⟨.ref s.heap.objs.size, _, I1, rfl, ⟨_, x, rfl, I.hok.fresh (Nat.le_refl _), rfl, fun ys hy => by rw [I.tuple_inj hy hq]; exact hx⟩, ⟨⟨y, ?_⟩, hs'.1.at fun o q => (sb.2 it (Ne.symm hne)).trans q, hne⟩, fun b hb => ?_⟩
    · rw [show ((i + 1 : Nat) : Int) = (i : Int) + 1 by omega]; exact he'
    · have hb' : b < s.heap.objs.size := by
        have e' : b = e ∨ b = it := by simpa using hb
        rcases e' with rfl | rfl
        · exact hel
        · exact hil
      rw [upd_ne (Nat.ne_of_lt hb')]
      exact (hf b hb).1
  done := by
    intro X hP hw hK hc i pins s σ H E I hf st hg
    subst hP hw hK
    obtain ⟨⟨old, he⟩, hit, hne⟩ := st
    obtain ⟨xs, hq, hx⟩ := hg
    obtain ⟨its, rv, p, hz⟩ := I.tuple hq
    obtain ⟨f0, f1, f2, f3, f4, f5⟩ := hf it (by simp)
    have hl := rv.length
    exact enumT_end (I.ok.hd hc) he hit p (by simp; omega) fun h' eb => ⟨rfl, I.turned (t' := s.toks) (fun b o hb q => eb b o hb q) f0 f1 f3 f4 f5⟩
  self := fun A i s Q E st h => by
    obtain ⟨⟨_, he⟩, _⟩ := st
    exact wpAny_pyIter_enum he h
/-- the pairs of enumerate -/
def enumItems (ds : List D) : List D := ds.zipIdx.map fun p => .tuple [.int (p.2 : Nat), p.1]
theorem enumItems_get {ds : List D} {i : Nat} {d : D} (e : (enumItems ds)[i]? = some d) : ∃ x, ds[i]? = some x ∧ d = .tuple [.int (i : Nat), x] := by
  unfold enumItems at e
  rw [List.getElem?_map, Option.map_eq_some_iff] at e
  obtain ⟨⟨x, j⟩, e1, rfl⟩ := e
  rw [List.getElem?_zipIdx, Option.map_eq_some_iff] at e1
  obtain ⟨y, e2, e3⟩ := e1
  cases e3
  exact ⟨_, e2, by simp⟩
theorem enumItems_len (ds : List D) : (enumItems ds).length = ds.length := by unfold enumItems; simp
theorem Src.enumT {K : PySem.W.Frag} {T : List Addr} {H : Hp} {a : Addr} {xs : List V} {ds : List D} (h : SqT K (out T H) a xs) (hd : DdAll K (out T H) xs ds) : Src K T H (IteT K a) (enumItems ds) none := by
  have st : ∀ {T' : List Addr} {H' : Hp}, Fr T H T' H' → SqT K H' a xs := fun f => Evl.ex_t out_ex (Evl.ex_t f.out h)
  refine ⟨fun T' io' H' i d f i1 _ e => ?_, fun T' io' H' i f _ _ hl => ⟨xs, st f, by rw [hd.length, ← enumItems_len]; exact hl⟩⟩
  obtain ⟨d0, e0, rfl⟩ := enumItems_get e
  obtain ⟨v, h1, h2⟩ := hd.get e0
  refine ⟨⟨xs, v, st f, h1⟩, fun x H'' hy => ?_⟩
  obtain ⟨T0, y, rfl, n0, rfl, hx⟩ := hy
  have hx' := hx xs (st f)
  rw [h1] at hx'
  cases hx'
  have nt : T0 ∉ T' := fun z => by
    obtain ⟨k, hk⟩ := List.getElem?_of_mem z
    obtain ⟨es, zs, w1, w2, _⟩ := i1.at_ k T0 hk
    rw [n0] at w2
    cases w2
  exact ⟨Ex.new n0, dd_newT n0 nt (.cons (.int _) (.cons (h2.mono f.out) .nil))⟩
def dItE (g : DA) : DI := fun sl io => (g sl io).bind fun p => match p.1 with
  | [.dat (.tuple ds)] => some ((enumItems ds, none), p.2)
  | _ => none
def iEnumT (K : PySem.W.Frag) (ta : TA) : TI := fun σ H R => ta σ H fun vs H1 => ∃ a xs, vs = [.ref a] ∧ SqT K H1 a xs ∧ R (IteT K a) H1
theorem pi_enumT {X : Cx} {e : Expr} {ta : TA} {p pos tpos : Pos} {elts : List Expr} {kk : Nat} (hg : Gl X "enumerate") (hm : X.mg "enumerate" = none) (ha : PA X [e] ta) (hs : starEach [e] X.env = [(false, eval e X.env)] := by rfl) :
    PI X (.Tuple elts kk tpos) (.Call (.Name "enumerate" p) [e] [] pos) (iEnumT X.K ta) := by
  refine ⟨fun pins s σ H R I h => Call_ (ld_blt I hg hm boot_enumerate (PyProof.Rows.callWith_type1 (thn (ha.run pos pins s σ H _ I h) fun us s1 ⟨vs, H1, I1, r1, a, xs, ex, hq, q⟩ => ?_) hs rfl))⟩
  subst ex
  cases r1 with
  | cons r rr =>
    cases rr
    cases r
    obtain ⟨its, rv, p', hz⟩ := I1.tuple hq
    have hlt : a < s1.heap.objs.size := by obtain ⟨o, ho, _⟩ := p'; exact Heap.lt_size ho
    refine call_enumT p' fun h' he hit hsz hk => wpAny_pyIter_enum he ?_
    have I2 : Inv X pins σ H1 { s1 with heap := h' } := I1.kept (t' := s1.toks) hk
    refine ⟨s1.heap.objs.size + 1, [s1.heap.objs.size + 1, s1.heap.objs.size], _, _, H1, rfl, I2, turn_enumT a (s1.heap.objs.size + 1) s1.heap.objs.size (Nat.ne_of_lt hlt) (Nat.ne_of_gt (Nat.lt_succ_of_lt hlt)), ⟨⟨.none, he⟩, hit, Nat.succ_ne_self _⟩, fun b hb => ?_, q⟩
    have hle : s1.heap.objs.size ≤ b := by
      have e' : b = s1.heap.objs.size + 1 ∨ b = s1.heap.objs.size := by simpa using hb
      rcases e' with z | z <;> rw [z]
      · exact Nat.le_add_right _ _
      · exact Nat.le_refl _
    exact I1.fpOk hle (I1.hok.fresh hle)
theorem pdi_enum {X : Cx} {a : Expr} {g : DA} {p pos tpos : Pos} {elts : List Expr} {kk : Nat} (hg : Gl X "enumerate") (hm : X.mg "enumerate" = none) (ha : PA X [a] (tA X.K g)) (hs : starEach [a] X.env = [(false, eval a X.env)] := by rfl) :
    PI X (.Tuple elts kk tpos) (.Call (.Name "enumerate" p) [a] [] pos) (tI X.K (dItE g)) := PI.imp (pi_enumT hg hm ha hs) fun σ H R hh => by
  obtain ⟨T, sl, io, hR, items, c, io', e, q⟩ := hh
  unfold dItE at e
  simp only [Option.bind_eq_some_iff, Prod.exists] at e
  obtain ⟨as, io1, e1, e2⟩ := e
  split at e2
  · cases e2
    refine ⟨T, sl, io, hR, _, _, e1, fun vs H1 s1 i1 v1 => ?_⟩
    cases v1 with
    | cons h1 t1 =>
      cases t1
      obtain ⟨p, xs, rfl, w1, w2⟩ := VwOk.tup (.inl h1)
      exact ⟨p, xs, rfl, Evl.ex_t out_ex w1, q _ H1 s1 i1 (Src.enumT w1 w2)⟩
  · cases e2
end DD
set_option Elab.async false
set_option linter.all false
set_option maxRecDepth 100000
set_option maxHeartbeats 4000000
/-! DD: f-strings of two parts or more. -/
namespace DD
open PySem PySem.Spec PyProof.Rows L2
def dFmt (f : DE) : DE := fun sl io => (f sl io).bind fun p => match p.1 with
  | .dat (.str y) => if y.length ≤ LIM then some (.dat (.str y), p.2) else none
  | .dat (.int i) => if i.natAbs < 1000000 then some (.dat (.str (toString i)), p.2) else none
  | _ => none
def jsGo : List DE → Str → List S → IO → Option (Str × IO)
  | [], acc, _, io => some (acc, io)
  | f :: fs, acc, sl, io => (f sl io).bind fun p => match p.1 with
    | .dat (.str y) => if (acc ++ y).length ≤ LIM then jsGo fs (acc ++ y) sl p.2 else none
    | _ => none
def dFs (fs : List DE) : DE := fun sl io => (jsGo fs Str.empty sl io).map fun p => (.dat (.str p.1), p.2)
section
variable {X : Cx}
theorem pd_fmt {e : Expr} {f : DE} {pos : Pos} (he : PE X e (tE X.K f)) : PE X (.FormattedValue e (-1) none pos) (tE X.K (dFmt f)) := PE.imp (pe_fmt he) fun σ H Q hh => by
  obtain ⟨T, sl, io, hR, a, io', e, q⟩ := hh
  unfold dFmt at e
  simp only [Option.bind_eq_some_iff, Prod.exists] at e
  obtain ⟨b, io1, e1, e2⟩ := e
  refine one hR e1 fun x H1 s1 i1 v1 => ?_
  split at e2
  · split at e2
    · cases e2
      have h1 := VwOk.str (.inl v1)
      exact .inl ⟨_, h1, lim_le (by assumption), q _ H1 s1 i1 (.str _)⟩
    · cases e2
  · split at e2
    · cases e2
      have h1 := VwOk.int (.inl v1)
      exact .inr ⟨_, h1, log2_small (by assumption), q _ H1 s1 i1 (.str _)⟩
    · cases e2
  · cases e2
theorem js_run {K : PySem.W.Frag} {T : List Addr} {σ : L2.St} {sl : List S} {Q : Str → Hp → Prop} : ∀ (fs : List DE) (acc : Str) (io io' : IO) (H : Hp) (out : Str), Rel K T σ sl io H → jsGo fs acc sl io = some (out, io') →
    (∀ H', Stp T H H' → IoOk K T io' H' → Q out H') → tJs (fs.map (tE K)) acc σ H Q
  | [], acc, io, io', H, out, hR, e, q => by
    cases e
    exact q H (Stp.refl _ _) hR.io
  | f :: fs, acc, io, io', H, out, hR, e, q => by
    unfold jsGo at e
    simp only [Option.bind_eq_some_iff, Prod.exists] at e
    obtain ⟨b, io1, e1, e2⟩ := e
    refine one hR e1 fun x H1 s1 i1 v1 => ?_
    split at e2
    · split at e2
      · have h1 := VwOk.str (.inl v1)
        exact ⟨_, h1, lim_le (by assumption), js_run fs _ io1 io' H1 out (hR.step s1 i1) e2 fun H' s2 i2 => q H' (s1.trans s2) i2⟩
      · cases e2
    · cases e2
theorem pd_fs {v1 v2 : Expr} {rest : List Expr} {fs : List DE} {pos : Pos} (h : PJ X (v1 :: v2 :: rest) (fs.map (tE X.K))) : PE X (.JoinedStr (v1 :: v2 :: rest) pos) (tE X.K (dFs fs)) := PE.imp (pe_joined h) fun σ H Q hh => by
  obtain ⟨T, sl, io, hR, a, io', e, q⟩ := hh
  unfold dFs at e
  simp only [Option.map_eq_some_iff, Prod.exists, Prod.mk.injEq] at e
  obtain ⟨out, io1, e1, rfl, rfl⟩ := e
  exact js_run fs Str.empty io io1 H out hR e1 fun H' s1 i1 => q _ H' s1 i1 (.str _)
end
end DD
set_option Elab.async false
set_option linter.all false
set_option maxRecDepth 100000
/-! DD: words for the plain part: how the denotations evaluate. -/
namespace DD
open PySem L2
section
variable {sl : List S} {io : IO} {f g h : DE} {t u : DT} {a b : DA}
/- continuations: constants, so that simp does not walk into what is not yet run -/
def varK (io : IO) : Option S → Option (A × IO)
  | some (.dat d) => some (.dat d, io)
  | some (.ref k) => some (.ref k, io)
  | _ => none
@[simp] theorem varK_dat {d : D} : varK io (some (.dat d)) = some (.dat d, io) := rfl
@[simp] theorem varK_ref {k : Nat} : varK io (some (.ref k)) = some (.ref k, io) := rfl
@[simp] theorem dVar_ap {i : Nat} : dVar i sl io = varK io sl[i]? := rfl
@[simp] theorem dC_ap {d : D} : dC d sl io = some (.dat d, io) := rfl
def opL (o : D → D → Option A) (a : A) : A × IO → Option (A × IO) := fun q => (vw q.2 a).bind fun x => (vw q.2 q.1).bind fun y => (o x y).map fun r => (r, q.2)
def opK (o : D → D → Option A) (g : DE) (sl : List S) : A × IO → Option (A × IO) := fun p => (g sl p.2).bind (opL o p.1)
@[simp] theorem opL_ap {o : D → D → Option A} {a b : A} : opL o a (b, io) = (vw io a).bind fun x => (vw io b).bind fun y => (o x y).map fun r => (r, io) := rfl
@[simp] theorem opK_ap {o : D → D → Option A} {a : A} : opK o g sl (a, io) = (g sl io).bind (opL o a) := rfl
@[simp] theorem dOp_ap {o : D → D → Option A} : dOp o f g sl io = (f sl io).bind (opK o g sl) := rfl
def tstK : A × IO → Option (Bool × IO) := fun p => match p.1 with
  | .dat (.bool b) => some (b, p.2)
  | _ => none
@[simp] theorem tstK_ap {b : Bool} : tstK (.dat (.bool b), io) = some (b, io) := rfl
@[simp] theorem dTst_ap : dTst f sl io = (f sl io).bind tstK := rfl
def truK : A × IO → Option (Bool × IO) := fun p => (vw p.2 p.1).bind fun d => (truD d).map fun b => (b, p.2)
@[simp] theorem truK_ap {a : A} : truK (a, io) = (vw io a).bind fun d => (truD d).map fun b => (b, io) := rfl
@[simp] theorem dTru_ap : dTru f sl io = (f sl io).bind truK := rfl
def negK : A × IO → Option (A × IO) := fun p => match p.1 with
  | .dat (.int i) => some (.dat (.int (-i)), p.2)
  | _ => none
@[simp] theorem negK_ap {i : Int} : negK (.dat (.int i), io) = some (.dat (.int (-i)), io) := rfl
@[simp] theorem dNeg_ap : dNeg f sl io = (f sl io).bind negK := rfl
@[simp] theorem dNotT_ap : dNotT t sl io = (t sl io).map fun p => (!p.1, p.2) := rfl
def andK (u : DT) (sl : List S) : Bool × IO → Option (Bool × IO) := fun p => if p.1 then u sl p.2 else some (false, p.2)
@[simp] theorem andK_ap {b : Bool} : andK u sl (b, io) = if b then u sl io else some (false, io) := rfl
@[simp] theorem dAndT_ap : dAndT t u sl io = (t sl io).bind (andK u sl) := rfl
def orK (u : DT) (sl : List S) : Bool × IO → Option (Bool × IO) := fun p => if p.1 then some (true, p.2) else u sl p.2
@[simp] theorem orK_ap {b : Bool} : orK u sl (b, io) = if b then some (true, io) else u sl io := rfl
@[simp] theorem dOrT_ap : dOrT t u sl io = (t sl io).bind (orK u sl) := rfl
def notK : A × IO → Option (A × IO) := fun p => match p.1 with
  | .dat (.bool b) => some (.dat (.bool (!b)), p.2)
  | _ => none
@[simp] theorem notK_ap {b : Bool} : notK (.dat (.bool b), io) = some (.dat (.bool (!b)), io) := rfl
@[simp] theorem dNotV_ap : dNotV f sl io = (f sl io).bind notK := rfl
def andW (g : DE) (sl : List S) : A × IO → Option (A × IO) := fun p => match p.1 with
  | .dat (.bool true) => g sl p.2
  | .dat (.bool false) => some (.dat (.bool false), p.2)
  | _ => none
@[simp] theorem andW_ap {b : Bool} : andW g sl (.dat (.bool b), io) = if b then g sl io else some (.dat (.bool false), io) := by cases b <;> rfl
@[simp] theorem dAndV_ap : dAndV f g sl io = (f sl io).bind (andW g sl) := rfl
def orW (g : DE) (sl : List S) : A × IO → Option (A × IO) := fun p => match p.1 with
  | .dat (.bool false) => g sl p.2
  | .dat (.bool true) => some (.dat (.bool true), p.2)
  | _ => none
@[simp] theorem orW_ap {b : Bool} : orW g sl (.dat (.bool b), io) = if b then some (.dat (.bool true), io) else g sl io := by cases b <;> rfl
@[simp] theorem dOrV_ap : dOrV f g sl io = (f sl io).bind (orW g sl) := rfl
def ifeK (f g : DE) (sl : List S) : Bool × IO → Option (A × IO) := fun p => if p.1 then f sl p.2 else g sl p.2
@[simp] theorem ifeK_ap {b : Bool} : ifeK f g sl (b, io) = if b then f sl io else g sl io := rfl
@[simp] theorem dIfE_ap : dIfE t f g sl io = (t sl io).bind (ifeK f g sl) := rfl
def chM (o' : D → D → Option A) (b : A) : A × IO → Option (A × IO) := fun z => (vw z.2 b).bind fun y' => (vw z.2 z.1).bind fun w => (o' y' w).map fun r' => (r', z.2)
def chL (o o' : D → D → Option A) (h : DE) (sl : List S) (a : A) : A × IO → Option (A × IO) := fun q => (vw q.2 a).bind fun x => (vw q.2 q.1).bind fun y => (o x y).bind fun r => match r with
  | .dat (.bool true) => (h sl q.2).bind (chM o' q.1)
  | .dat (.bool false) => some (.dat (.bool false), q.2)
  | _ => none
def chK (o o' : D → D → Option A) (g h : DE) (sl : List S) : A × IO → Option (A × IO) := fun p => (g sl p.2).bind (chL o o' h sl p.1)
def chN (o' : D → D → Option A) (h : DE) (sl : List S) (b : A) (io : IO) : A → Option (A × IO)
  | .dat (.bool true) => (h sl io).bind (chM o' b)
  | .dat (.bool false) => some (.dat (.bool false), io)
  | _ => none
@[simp] theorem chM_ap {o' : D → D → Option A} {a b : A} : chM o' b (a, io) = (vw io b).bind fun y' => (vw io a).bind fun w => (o' y' w).map fun r' => (r', io) := rfl
@[simp] theorem chN_ap {o' : D → D → Option A} {a : A} {b : Bool} : chN o' h sl a io (.dat (.bool b)) = if b then (h sl io).bind (chM o' a) else some (.dat (.bool false), io) := by cases b <;> rfl
@[simp] theorem chL_ap {o o' : D → D → Option A} {a b : A} : chL o o' h sl a (b, io) = (vw io a).bind fun x => (vw io b).bind fun y => (o x y).bind (chN o' h sl b io) := by
  unfold chL chN
  rfl
@[simp] theorem chK_ap {o o' : D → D → Option A} {a : A} : chK o o' g h sl (a, io) = (g sl io).bind (chL o o' h sl a) := rfl
@[simp] theorem dChain_ap {o o' : D → D → Option A} : dChain o o' f g h sl io = (f sl io).bind (chK o o' g h sl) := rfl
@[simp] theorem dNo_ap : dNo sl io = some (none, io) := rfl
def partK : A × IO → Option (Option Int × IO) := fun p => match p.1 with
  | .dat (.int i) => some (some i, p.2)
  | _ => none
@[simp] theorem partK_ap {i : Int} : partK (.dat (.int i), io) = some (some i, io) := rfl
@[simp] theorem dPart_ap : dPart f sl io = (f sl io).bind partK := rfl
def slM (a : A) (l : Option Int) : Option Int × IO → Option (A × IO) := fun u => (vw u.2 a).bind fun d => (sliceD d l u.1).map fun r => (r, u.2)
def slL (hi : DO) (sl : List S) (a : A) : Option Int × IO → Option (A × IO) := fun l => (hi sl l.2).bind (slM a l.1)
def slK (lo hi : DO) (sl : List S) : A × IO → Option (A × IO) := fun p => (lo sl p.2).bind (slL hi sl p.1)
@[simp] theorem slM_ap {a : A} {l u : Option Int} : slM a l (u, io) = (vw io a).bind fun d => (sliceD d l u).map fun r => (r, io) := rfl
@[simp] theorem slL_ap {hi : DO} {a : A} {l : Option Int} : slL hi sl a (l, io) = (hi sl io).bind (slM a l) := rfl
@[simp] theorem slK_ap {lo hi : DO} {a : A} : slK lo hi sl (a, io) = (lo sl io).bind (slL hi sl a) := rfl
@[simp] theorem dSl_ap {lo hi : DO} : dSl f lo hi sl io = (f sl io).bind (slK lo hi sl) := rfl
@[simp] theorem dScr_ap {i : Nat} {lo hi : DO} : dScr i lo hi sl io = match sl[i]? with
  | some (.scr ns) => (lo sl io).bind fun l => (hi sl l.2).map fun u => (.tmp (cutD (ns.map .int) l.1 u.1), u.2)
  | _ => none := rfl
@[simp] theorem dNil_ap : dNil sl io = some ([], io) := rfl
def consK (a : DA) (sl : List S) : A × IO → Option (List A × IO) := fun p => (a sl p.2).map fun q => (p.1 :: q.1, q.2)
@[simp] theorem consK_ap {x : A} : consK a sl (x, io) = (a sl io).map fun q => (x :: q.1, q.2) := rfl
@[simp] theorem dCons_ap : dCons f a sl io = (f sl io).bind (consK a sl) := rfl
@[simp] theorem dTup_ap : dTup a sl io = (a sl io).bind fun p => (vwIs p.1).bind fun ds => if ds.length ≤ LIM then some (.dat (.tuple ds), p.2) else none := rfl
@[simp] theorem dLst_ap : dLst a sl io = (a sl io).bind fun p => (vwIs p.1).bind fun ds => if ds.length ≤ LIM then some (.tmp ds, p.2) else none := rfl
@[simp] theorem dCall_ap {o : List D → Option A} : dCall o a sl io = (a sl io).bind fun p => (vws p.2 p.1).bind fun ds => (o ds).map fun r => (r, p.2) := rfl
@[simp] theorem dFn_ap {o : List D → Option A} : dFn o a sl io = (a sl io).bind fun p => (vws p.2 p.1).bind fun ds => (o ds).map fun r => (r, p.2) := rfl
@[simp] theorem dIsi_ap {ty : String} : dIsi ty f sl io = (f sl io).bind fun p => (vw p.2 p.1).bind fun d => (isiD ty d).map fun r => (r, p.2) := rfl
def methK (o : Str → List D → Option A) (a : DA) (sl : List S) : A × IO → Option (A × IO) := fun p => match p.1 with
  | .dat (.str z) => (a sl p.2).bind fun q => (vws q.2 q.1).bind fun ds => (o z ds).map fun r => (r, q.2)
  | _ => none
@[simp] theorem methK_ap {o : Str → List D → Option A} {z : Str} : methK o a sl (.dat (.str z), io) = (a sl io).bind fun q => (vws q.2 q.1).bind fun ds => (o z ds).map fun r => (r, q.2) := rfl
@[simp] theorem dMeth_ap {o : Str → List D → Option A} : dMeth o f a sl io = (f sl io).bind (methK o a sl) := rfl
def fnJK (F : List D → List D → Option (A × List D)) : List A × IO → Option (A × IO) := fun p => match p.1 with
  | .ref k :: as => (p.2[k]?).bind fun js => (vwNs p.2 k as).bind fun ds => (F js ds).map fun r => (r.1, p.2.set k r.2)
  | _ => none
@[simp] theorem fnJK_ap {F : List D → List D → Option (A × List D)} {k : Nat} {as : List A} : fnJK F (.ref k :: as, io) = (io[k]?).bind fun js => (vwNs io k as).bind fun ds => (F js ds).map fun r => (r.1, io.set k r.2) := rfl
@[simp] theorem dFnJ_ap {F : List D → List D → Option (A × List D)} : dFnJ F a sl io = (a sl io).bind (fnJK F) := rfl
@[simp] theorem dFlip_ap : dFlip a sl io = (a sl io).map fun p => (flip2 p.1, p.2) := rfl
@[simp] theorem dYes_ap : dYes sl io = some (true, io) := rfl
def lcK (tg : Tg) (t : DT) (f : DE) (sl : List S) : (List D × Chk) × IO → Option (A × IO) := fun p => (lcGo p.1.2 tg t f sl p.1.1 0 p.2).map fun z => (.tmp z.1, z.2)
@[simp] theorem lcK_ap {tg : Tg} {items : List D} {c : Chk} : lcK tg t f sl ((items, c), io) = (lcGo c tg t f sl items 0 io).map fun z => (.tmp z.1, z.2) := rfl
@[simp] theorem dLc_ap {it : DI} {tg : Tg} {vs : List Nat} : dLc it tg t f vs sl io = (it sl io).bind (lcK tg t f (wipeS sl vs)) := rfl
@[simp] theorem dItS_ap : dItS f sl io = (f sl io).bind fun p => (itemsOf p.2 p.1).map fun q => (q, p.2) := rfl
def rng1K : List A × IO → Option ((List D × Chk) × IO) := fun p => match p.1 with
  | [.dat (.int j)] => if fitB j = true then some ((rngItems 0 j.toNat, none), p.2) else none
  | _ => none
theorem rng1K_ap {j : Int} {n : Nat} (h : j = (n : Int)) (hn : n ≤ 1000000) : rng1K ([.dat (.int j)], io) = some ((rngItems 0 n, none), io) := by
  subst h
  unfold rng1K
  simp only []
  rw [if_pos (fitB_nat hn), Int.toNat_natCast]
@[simp] theorem dItR1_ap : dItR1 a sl io = (a sl io).bind rng1K := rfl
def rng2K : List A × IO → Option ((List D × Chk) × IO) := fun p => match p.1 with
  | [.dat (.int i), .dat (.int j)] => if fitB i = true ∧ fitB j = true then some ((rngItems i (j - i).toNat, none), p.2) else none
  | _ => none
theorem rng2K_ap {i j : Int} {n : Nat} (h : j = i + (n : Int)) (h0 : 0 ≤ i) (hj : j ≤ 1000000) : rng2K ([.dat (.int i), .dat (.int j)], io) = some ((rngItems i n, none), io) := by
  unfold rng2K
  simp only []
  rw [if_pos ⟨fitB_iff.mpr (by omega), fitB_iff.mpr (by omega)⟩, show (j - i).toNat = n by omega]
@[simp] theorem dItR2_ap : dItR2 a sl io = (a sl io).bind rng2K := rfl
section
variable {p q : DS}
@[simp] theorem dNext_ap : dNext sl io = some (.nx sl io) := rfl
def sqK (q : DS) : R → Option R := fun r => match r with
  | .nx sl' io' => q sl' io'
  | r => some r
@[simp] theorem sqK_nx : sqK q (.nx sl io) = q sl io := rfl
@[simp] theorem sqK_rt {x : A} : sqK q (.rt x io) = some (.rt x io) := rfl
@[simp] theorem sqK_bk : sqK q (.bk sl io) = some (.bk sl io) := rfl
@[simp] theorem sqK_ct : sqK q (.ct sl io) = some (.ct sl io) := rfl
@[simp] theorem dSeq_ap : dSeq p q sl io = (p sl io).bind (sqK q) := rfl
def ifK (p q : DS) (sl : List S) : Bool × IO → Option R := fun c => if c.1 then p sl c.2 else q sl c.2
@[simp] theorem ifK_ap {b : Bool} : ifK p q sl (b, io) = if b then p sl io else q sl io := rfl
@[simp] theorem dIf_ap : dIf t p q sl io = (t sl io).bind (ifK p q sl) := rfl
@[simp] theorem dRet_ap : dRet f sl io = (f sl io).map fun p => .rt p.1 p.2 := rfl
@[simp] theorem dRetN_ap : dRetN sl io = some (.rt (.dat .none) io) := rfl
@[simp] theorem dBreak_ap : dBreak sl io = some (.bk sl io) := rfl
@[simp] theorem dCont_ap : dCont sl io = some (.ct sl io) := rfl
@[simp] theorem dStuck_ap : dStuck sl io = none := rfl
@[simp] theorem dDrop_ap : dDrop f sl io = (f sl io).map fun p => .nx sl p.2 := rfl
@[simp] theorem dSet_ap {i : Nat} : dSet i f sl io = (f sl io).map fun p => .nx (sl.set i (slotOf p.1)) p.2 := rfl
def ownK (i : Nat) (sl : List S) : A × IO → Option R := fun p => match p.1 with
  | .tmp ds => if imAll ds = true then some (.nx (sl.set i (.ref p.2.length)) (p.2 ++ [ds])) else none
  | a => some (.nx (sl.set i (slotOf a)) p.2)
@[simp] theorem ownK_tmp {i : Nat} {ds : List D} : ownK i sl (.tmp ds, io) = if imAll ds = true then some (.nx (sl.set i (.ref io.length)) (io ++ [ds])) else none := rfl
@[simp] theorem ownK_dat {i : Nat} {d : D} : ownK i sl (.dat d, io) = some (.nx (sl.set i (.dat d)) io) := rfl
@[simp] theorem ownK_ref {i k : Nat} : ownK i sl (.ref k, io) = some (.nx (sl.set i (.ref k)) io) := rfl
@[simp] theorem dOwn_ap {i : Nat} : dOwn i f sl io = (f sl io).bind (ownK i sl) := rfl
@[simp] theorem dUnp_ap {tg : Tg} : dUnp tg f sl io = (f sl io).bind fun p => (vwI p.1).bind fun d => (tgGo tg d sl).map fun sl' => .nx sl' p.2 := rfl
def appL (sl : List S) (k : Nat) : A × IO → Option R := fun p => match p.1 with
  | .dat d => (p.2[k]?).bind fun js => if im d = true ∧ js.length < LIM then some (.nx sl (p.2.set k (js ++ [d]))) else none
  | _ => none
def appK (f : DE) (sl : List S) (io : IO) : Option S → Option R
  | some (.ref k) => (f sl io).bind (appL sl k)
  | _ => none
@[simp] theorem appL_ap {k : Nat} {d : D} : appL sl k (.dat d, io) = (io[k]?).bind fun js => if im d = true ∧ js.length < LIM then some (.nx sl (io.set k (js ++ [d]))) else none := rfl
@[simp] theorem appK_ap {k : Nat} : appK f sl io (some (.ref k)) = (f sl io).bind (appL sl k) := rfl
@[simp] theorem dApp_ap {i : Nat} : dApp i f sl io = appK f sl io sl[i]? := rfl
def putM (sl : List S) (d : A) (k : A) : A × IO → Option R := fun z => match d, k, z.1 with
  | .dat d, .ref k, .dat (.int i) => (z.2[k]?).bind fun js => (ixN js.length i).bind fun j => if im d = true then some (.nx sl (z.2.set k (js.set j d))) else none
  | _, _, _ => none
def putL (g : DE) (sl : List S) (d : A) : A × IO → Option R := fun q => (g sl q.2).bind (putM sl d q.1)
def putK (f g : DE) (sl : List S) : A × IO → Option R := fun p => (f sl p.2).bind (putL g sl p.1)
@[simp] theorem putM_ap {d : D} {k : Nat} {i : Int} : putM sl (.dat d) (.ref k) (.dat (.int i), io) = (io[k]?).bind fun js => (ixN js.length i).bind fun j => if im d = true then some (.nx sl (io.set k (js.set j d))) else none := rfl
@[simp] theorem putL_ap {x y : A} : putL g sl x (y, io) = (g sl io).bind (putM sl x y) := rfl
@[simp] theorem putK_ap {x : A} : putK f g sl (x, io) = (f sl io).bind (putL g sl x) := rfl
@[simp] theorem dPut_ap : dPut f g h sl io = (h sl io).bind (putK f g sl) := rfl
def augL (i : Nat) (o : Int → Int → Option Int) (a : Int) (sl : List S) : A × IO → Option R := fun p => match p.1 with
  | .dat (.int b) => (o a b).map fun c => .nx (sl.set i (.dat (.int c))) p.2
  | _ => none
def augK (i : Nat) (o : Int → Int → Option Int) (f : DE) (sl : List S) (io : IO) : Option S → Option R
  | some (.dat (.int a)) => (f sl io).bind (augL i o a sl)
  | _ => none
@[simp] theorem augL_ap {i : Nat} {o : Int → Int → Option Int} {a b : Int} : augL i o a sl (.dat (.int b), io) = (o a b).map fun c => .nx (sl.set i (.dat (.int c))) io := rfl
@[simp] theorem augK_ap {i : Nat} {o : Int → Int → Option Int} {a : Int} : augK i o f sl io (some (.dat (.int a))) = (f sl io).bind (augL i o a sl) := rfl
@[simp] theorem dAugI_ap {i : Nat} {o : Int → Int → Option Int} : dAugI i o f sl io = augK i o f sl io sl[i]? := rfl
def forK (tg : Tg) (p : DS) (sl : List S) : (List D × Chk) × IO → Option R := fun x => forGo x.1.2 tg p x.1.1 sl x.2
@[simp] theorem forK_ap {tg : Tg} {items : List D} {c : Chk} : forK tg p sl ((items, c), io) = forGo c tg p items sl io := rfl
@[simp] theorem dFor_ap {it : DI} {tg : Tg} : dFor it tg p sl io = (it sl io).bind (forK tg p sl) := rfl
end
theorem fitB_cast {n : Nat} (h : n ≤ 1000000) : fitB (n : Int) = true := fitB_nat h
/-! operators at known kinds -/
section
variable {i j : Int} {ds es : List D} {x y : Str} {c : Bool}
@[simp] theorem vw_dat {d : D} : vw io (.dat d) = some d := rfl
@[simp] theorem vw_tmp : vw io (.tmp ds) = some (.list ds) := rfl
@[simp] theorem vw_ref {k : Nat} : vw io (.ref k) = io[k]?.map .list := rfl
@[simp] theorem vws_nil : vws io [] = some [] := rfl
@[simp] theorem vws_cons {q : A} {as : List A} : vws io (q :: as) = (vw io q).bind fun d => (vws io as).map fun ds => d :: ds := rfl
@[simp] theorem vwI_dat {d : D} : vwI (.dat d) = some d := rfl
@[simp] theorem vwI_tmp : vwI (.tmp ds) = some (.list ds) := rfl
@[simp] theorem vwIs_nil : vwIs [] = some [] := rfl
@[simp] theorem vwIs_cons {q : A} {as : List A} : vwIs (q :: as) = (vwI q).bind fun d => (vwIs as).map fun ds => d :: ds := rfl
@[simp] theorem vwN_dat {k : Nat} {d : D} : vwN io k (.dat d) = some d := rfl
@[simp] theorem vwN_tmp {k : Nat} : vwN io k (.tmp ds) = some (.list ds) := rfl
@[simp] theorem vwN_ref {k j : Nat} : vwN io k (.ref j) = if j = k then none else io[j]?.map .list := rfl
@[simp] theorem vwNs_nil {k : Nat} : vwNs io k [] = some [] := rfl
@[simp] theorem vwNs_cons {k : Nat} {q : A} {as : List A} : vwNs io k (q :: as) = (vwN io k q).bind fun d => (vwNs io k as).map fun ds => d :: ds := rfl
@[simp] theorem slotOf_dat {d : D} : slotOf (.dat d) = .dat d := rfl
@[simp] theorem slotOf_tmp : slotOf (.tmp ds) = .dat (.list ds) := rfl
@[simp] theorem slotOf_ref {k : Nat} : slotOf (.ref k) = .ref k := rfl
@[simp] theorem addD_int : addD (.int i) (.int j) = some (.dat (.int (i + j))) := rfl
@[simp] theorem addD_str : addD (.str x) (.str y) = if x.length + y.length ≤ LIM then some (.dat (.str (x ++ y))) else none := rfl
@[simp] theorem addD_tup : addD (.tuple ds) (.tuple es) = if ds.length + es.length ≤ LIM then some (.dat (.tuple (ds ++ es))) else none := rfl
@[simp] theorem addD_lst : addD (.list ds) (.list es) = if ds.length + es.length ≤ LIM then some (.tmp (ds ++ es)) else none := rfl
@[simp] theorem subD_int : subD (.int i) (.int j) = some (.dat (.int (i - j))) := rfl
@[simp] theorem mulD_int : mulD (.int i) (.int j) = if mulOk i j = true then some (.dat (.int (i * j))) else none := rfl
@[simp] theorem fdivD_int : fdivD (.int i) (.int j) = if 0 < j ∧ j < 1073741824 then some (.dat (.int (i / j))) else none := rfl
@[simp] theorem modD_int : modD (.int i) (.int j) = if 0 < j then some (.dat (.int (i % j))) else none := rfl
@[simp] theorem powD_int : powD (.int i) (.int j) = if 0 ≤ j ∧ j ≤ 1000000 ∧ i.natAbs < 2 ^ 64 then some (.dat (.int (i ^ j.toNat))) else none := rfl
@[simp] theorem ltD_int : ltD (.int i) (.int j) = some (.dat (.bool (decide (i < j)))) := rfl
@[simp] theorem leD_int : leD (.int i) (.int j) = some (.dat (.bool (decide (i ≤ j)))) := rfl
@[simp] theorem gtD_int : gtD (.int i) (.int j) = some (.dat (.bool (decide (j < i)))) := rfl
@[simp] theorem geD_int : geD (.int i) (.int j) = some (.dat (.bool (decide (j ≤ i)))) := rfl
@[simp] theorem eqO_ap {d e : D} : eqO d e = (eqD d e).map fun b => .dat (.bool b) := rfl
@[simp] theorem neO_ap {d e : D} : neO d e = (eqD d e).map fun b => .dat (.bool (!b)) := rfl
@[simp] theorem inO_ap {d e : D} : inO d e = (inD d e).map fun b => .dat (.bool b) := rfl
@[simp] theorem ninO_ap {d e : D} : ninO d e = (inD d e).map fun b => .dat (.bool (!b)) := rfl
@[simp] theorem eqD_int : eqD (.int i) (.int j) = some (decide (i = j)) := rfl
@[simp] theorem eqD_str : eqD (.str x) (.str y) = some (decide (x = y)) := rfl
@[simp] theorem isD_none {d : D} : isD d .none = some (.dat (.bool (isNonD d))) := by cases d <;> rfl
@[simp] theorem isntD_none {d : D} : isntD d .none = some (.dat (.bool (!isNonD d))) := by cases d <;> rfl
@[simp] theorem isNonD_none : isNonD .none = true := rfl
@[simp] theorem isNonD_int : isNonD (.int i) = false := rfl
@[simp] theorem isNonD_bool : isNonD (.bool c) = false := rfl
@[simp] theorem isNonD_tup : isNonD (.tuple ds) = false := rfl
@[simp] theorem isNonD_str : isNonD (.str x) = false := rfl
@[simp] theorem isNonD_lst : isNonD (.list ds) = false := rfl
@[simp] theorem truD_bool : truD (.bool c) = some c := rfl
@[simp] theorem idxD_tup : idxD (.tuple ds) (.int i) = (atI ds i).map .dat := rfl
@[simp] theorem idxD_lst : idxD (.list ds) (.int i) = (atI ds i).map .dat := rfl
@[simp] theorem idxD_str : idxD (.str x) (.int i) = if x.length ≤ LIM then (atI x.cps.toList i).map fun c => .dat (.str ⟨#[c]⟩) else none := rfl
@[simp] theorem sliceD_tup {lo hi : Option Int} : sliceD (.tuple ds) lo hi = some (.dat (.tuple (cutD ds lo hi))) := rfl
@[simp] theorem sliceD_lst {lo hi : Option Int} : sliceD (.list ds) lo hi = some (.tmp (cutD ds lo hi)) := rfl
@[simp] theorem sliceD_str {lo hi : Option Int} : sliceD (.str x) lo hi = if x.length ≤ LIM then some (.dat (.str (cutS x lo hi))) else none := rfl
@[simp] theorem lenD_tup : lenD [.tuple ds] = some (.dat (.int ds.length)) := rfl
@[simp] theorem lenD_lst : lenD [.list ds] = some (.dat (.int ds.length)) := rfl
@[simp] theorem lenD_str : lenD [.str x] = if x.length ≤ LIM then some (.dat (.int x.length)) else none := rfl
@[simp] theorem intD_int : intD [.int i] = some (.dat (.int i)) := rfl
@[simp] theorem intD_bool : intD [.bool c] = some (.dat (.int (if c then 1 else 0))) := rfl
@[simp] theorem maxD_int : maxD [.int i, .int j] = some (.dat (.int (if j > i then j else i))) := rfl
@[simp] theorem minD_int : minD [.int i, .int j] = some (.dat (.int (if j < i then j else i))) := rfl
@[simp] theorem tupleD_lst : tupleD [.list ds] = some (.dat (.tuple ds)) := rfl
@[simp] theorem tupleD_tup : tupleD [.tuple ds] = some (.dat (.tuple ds)) := rfl
@[simp] theorem listD_lst : listD [.list ds] = some (.tmp ds) := rfl
@[simp] theorem listD_tup : listD [.tuple ds] = some (.tmp ds) := rfl
@[simp] theorem splitD_str : splitD x [.str y] = if (y.length == 0) = false ∧ x.length ≤ LIM then some (.tmp ((Txt.split x y).map .str)) else none := rfl
@[simp] theorem joinD_lst : joinD x [.list ds] = (strsOf ds).bind fun ss => if joinLen x ss ≤ LIM then some (.dat (.str (Txt.join x ss))) else none := rfl
@[simp] theorem itemsOf_tup : itemsOf io (.dat (.tuple ds)) = some (ds, none) := rfl
@[simp] theorem itemsOf_lst : itemsOf io (.dat (.list ds)) = some (ds, none) := rfl
@[simp] theorem itemsOf_str : itemsOf io (.dat (.str x)) = some (strItems x, none) := rfl
@[simp] theorem itemsOf_tmp : itemsOf io (.tmp ds) = some (ds, none) := rfl
@[simp] theorem itemsOf_ref {k : Nat} : itemsOf io (.ref k) = io[k]?.map fun ds => (ds, some (k, ds)) := rfl
@[simp] theorem chk_none : chk none io = true := rfl
@[simp] theorem tgGo_one {d : D} {k : Nat} : tgGo (.one k) d sl = some (sl.set k (.dat d)) := rfl
@[simp] theorem im_int : im (.int i) = true := rfl
@[simp] theorem im_none : im .none = true := rfl
@[simp] theorem im_bool : im (.bool c) = true := rfl
@[simp] theorem im_str : im (.str x) = true := rfl
@[simp] theorem im_tup : im (.tuple ds) = imAll ds := rfl
@[simp] theorem imAll_nil : imAll [] = true := rfl
@[simp] theorem imAll_cons {d : D} : imAll (d :: ds) = (im d && imAll ds) := rfl
@[simp] theorem imAll_app : imAll (ds ++ es) = (imAll ds && imAll es) := imAll_append
theorem imAll_map {α : Type} {k : α → D} (hk : ∀ a, im (k a) = true) : ∀ l : List α, imAll (l.map k) = true
  | [] => rfl
  | a :: l => by rw [List.map_cons, imAll, hk a, imAll_map hk l]; rfl
@[simp] theorem imAll_ints {l : List Int} : imAll (l.map PyData.int) = true := imAll_map (fun _ => rfl) l
@[simp] theorem imAll_strs {l : List Str} : imAll (l.map PyData.str) = true := imAll_map (fun _ => rfl) l
@[simp] theorem strsOf_strs {l : List Str} : strsOf (l.map PyData.str) = some l := strsOf_map l
@[simp] theorem wipeS_nil : wipeS sl [] = sl := rfl
@[simp] theorem wipeS_cons {v : Nat} {vs : List Nat} : wipeS sl (v :: vs) = (wipeS sl vs).set v .un := rfl
@[simp] theorem lcItem_dat {d : D} : lcItem (.dat d) = if im d = true then some d else none := rfl
@[simp] theorem lcItem_tmp : lcItem (.tmp ds) = if imAll ds = true then some (.list ds) else none := rfl
@[simp] theorem finish_nx {n : Nat} : finish n (.nx sl io) = some (.dat .none, io.take n) := rfl
@[simp] theorem finish_dat {n : Nat} {d : D} : finish n (.rt (.dat d) io) = if im d = true then some (.dat d, io.take n) else none := rfl
@[simp] theorem finish_tmp {n : Nat} : finish n (.rt (.tmp ds) io) = if imAll ds = true then some (.tmp ds, io.take n) else none := rfl
@[simp] theorem finish_ref {n k : Nat} : finish n (.rt (.ref k) io) = if n ≤ k then io[k]?.map fun ds => (.tmp ds, io.take n) else none := rfl
end
@[simp] theorem isi_int_int {i : Int} : isiD "int" (.int i) = some (.dat (.bool true)) := by show (kitB "int" "int").map blA = _; rw [show kitB "int" "int" = some true by decide +kernel]; rfl
@[simp] theorem isi_int_bool {i : Bool} : isiD "int" (.bool i) = some (.dat (.bool true)) := by show (kitB "bool" "int").map blA = _; rw [show kitB "bool" "int" = some true by decide +kernel]; rfl
@[simp] theorem isi_int_none : isiD "int" .none = some (.dat (.bool false)) := by show (kitB "NoneType" "int").map blA = _; rw [show kitB "NoneType" "int" = some false by decide +kernel]; rfl
@[simp] theorem isi_int_str {x : Str} : isiD "int" (.str x) = some (.dat (.bool false)) := by show (kitB "str" "int").map blA = _; rw [show kitB "str" "int" = some false by decide +kernel]; rfl
@[simp] theorem isi_int_tup {x : List D} : isiD "int" (.tuple x) = some (.dat (.bool false)) := by show (kitB "tuple" "int").map blA = _; rw [show kitB "tuple" "int" = some false by decide +kernel]; rfl
@[simp] theorem isi_int_lst {x : List D} : isiD "int" (.list x) = some (.dat (.bool false)) := by show (kitB "list" "int").map blA = _; rw [show kitB "list" "int" = some false by decide +kernel]; rfl
@[simp] theorem isi_bool_int {i : Int} : isiD "bool" (.int i) = some (.dat (.bool false)) := by show (kitB "int" "bool").map blA = _; rw [show kitB "int" "bool" = some false by decide +kernel]; rfl
@[simp] theorem isi_bool_bool {i : Bool} : isiD "bool" (.bool i) = some (.dat (.bool true)) := by show (kitB "bool" "bool").map blA = _; rw [show kitB "bool" "bool" = some true by decide +kernel]; rfl
@[simp] theorem isi_bool_none : isiD "bool" .none = some (.dat (.bool false)) := by show (kitB "NoneType" "bool").map blA = _; rw [show kitB "NoneType" "bool" = some false by decide +kernel]; rfl
@[simp] theorem isi_bool_str {x : Str} : isiD "bool" (.str x) = some (.dat (.bool false)) := by show (kitB "str" "bool").map blA = _; rw [show kitB "str" "bool" = some false by decide +kernel]; rfl
@[simp] theorem isi_bool_tup {x : List D} : isiD "bool" (.tuple x) = some (.dat (.bool false)) := by show (kitB "tuple" "bool").map blA = _; rw [show kitB "tuple" "bool" = some false by decide +kernel]; rfl
@[simp] theorem isi_bool_lst {x : List D} : isiD "bool" (.list x) = some (.dat (.bool false)) := by show (kitB "list" "bool").map blA = _; rw [show kitB "list" "bool" = some false by decide +kernel]; rfl
@[simp] theorem isi_tup_int {i : Int} : isiD "tuple" (.int i) = some (.dat (.bool false)) := by show (kitB "int" "tuple").map blA = _; rw [show kitB "int" "tuple" = some false by decide +kernel]; rfl
@[simp] theorem isi_tup_bool {i : Bool} : isiD "tuple" (.bool i) = some (.dat (.bool false)) := by show (kitB "bool" "tuple").map blA = _; rw [show kitB "bool" "tuple" = some false by decide +kernel]; rfl
@[simp] theorem isi_tup_none : isiD "tuple" .none = some (.dat (.bool false)) := by show (kitB "NoneType" "tuple").map blA = _; rw [show kitB "NoneType" "tuple" = some false by decide +kernel]; rfl
@[simp] theorem isi_tup_str {x : Str} : isiD "tuple" (.str x) = some (.dat (.bool false)) := by show (kitB "str" "tuple").map blA = _; rw [show kitB "str" "tuple" = some false by decide +kernel]; rfl
@[simp] theorem isi_tup_tup {x : List D} : isiD "tuple" (.tuple x) = some (.dat (.bool true)) := by show (kitB "tuple" "tuple").map blA = _; rw [show kitB "tuple" "tuple" = some true by decide +kernel]; rfl
@[simp] theorem isi_tup_lst {x : List D} : isiD "tuple" (.list x) = some (.dat (.bool false)) := by show (kitB "list" "tuple").map blA = _; rw [show kitB "list" "tuple" = some false by decide +kernel]; rfl
@[simp] theorem isi_str_int {i : Int} : isiD "str" (.int i) = some (.dat (.bool false)) := by show (kitB "int" "str").map blA = _; rw [show kitB "int" "str" = some false by decide +kernel]; rfl
@[simp] theorem isi_str_bool {i : Bool} : isiD "str" (.bool i) = some (.dat (.bool false)) := by show (kitB "bool" "str").map blA = _; rw [show kitB "bool" "str" = some false by decide +kernel]; rfl
@[simp] theorem isi_str_none : isiD "str" .none = some (.dat (.bool false)) := by show (kitB "NoneType" "str").map blA = _; rw [show kitB "NoneType" "str" = some false by decide +kernel]; rfl
@[simp] theorem isi_str_str {x : Str} : isiD "str" (.str x) = some (.dat (.bool true)) := by show (kitB "str" "str").map blA = _; rw [show kitB "str" "str" = some true by decide +kernel]; rfl
@[simp] theorem isi_str_tup {x : List D} : isiD "str" (.tuple x) = some (.dat (.bool false)) := by show (kitB "tuple" "str").map blA = _; rw [show kitB "tuple" "str" = some false by decide +kernel]; rfl
@[simp] theorem isi_str_lst {x : List D} : isiD "str" (.list x) = some (.dat (.bool false)) := by show (kitB "list" "str").map blA = _; rw [show kitB "list" "str" = some false by decide +kernel]; rfl
@[simp] theorem bind_some' {α β : Type} {a : α} {k : α → Option β} : (some a).bind k = k a := rfl

/-! ### loops -/
/-- the statement goes on, in a state of which P holds -/
def Nx (r : Option R) (P : List S → IO → Prop) : Prop := ∃ sl io, r = some (.nx sl io) ∧ P sl io
@[simp] theorem Nx_nx {P : List S → IO → Prop} : Nx (some (.nx sl io)) P ↔ P sl io :=
  ⟨fun ⟨_, _, e, h⟩ => by cases e; exact h, fun h => ⟨_, _, rfl, h⟩⟩
theorem Nx.of {P : List S → IO → Prop} {r : Option R} (e : r = some (.nx sl io)) (h : P sl io) : Nx r P := ⟨_, _, e, h⟩
theorem Nx.imp {P Q : List S → IO → Prop} {r : Option R} (h : Nx r P) (k : ∀ sl io, P sl io → Q sl io) : Nx r Q := let ⟨sl, io, e, p⟩ := h; ⟨sl, io, e, k sl io p⟩
theorem forGo_rel {c : Chk} {tg : Tg} {body : DS} (P : Nat → List S → IO → Prop) : ∀ (items : List D) (k : Nat) (sl : List S) (io : IO), P k sl io →
    (∀ i d sl io, items[i]? = some d → P (k + i) sl io → chk c io = true ∧ Nx ((tgGo tg d sl).bind fun sl1 => body sl1 io) (P (k + i + 1))) →
    (∀ sl io, P (k + items.length) sl io → chk c io = true) → Nx (forGo c tg body items sl io) (P (k + items.length))
  | [], k, sl, io, h, _, he => ⟨sl, io, by unfold forGo; rw [he sl io h]; rfl, h⟩
  | d :: r, k, sl, io, h, hs, he => by
    obtain ⟨hc, sl2, io2, e2, h2⟩ := hs 0 d sl io rfl h
    obtain ⟨sl', io', e3, h3⟩ := forGo_rel P r (k + 1) sl2 io2 h2 (fun i d' sl io hi hp => by
      have h1 : k + (i + 1) = k + 1 + i := by omega
      have := hs (i + 1) d' sl io (by simpa using hi) (by rw [h1]; exact hp)
      rw [h1] at this
      exact this) (fun sl io hp => he sl io (by rw [List.length_cons, show k + (r.length + 1) = k + 1 + r.length by omega]; exact hp))
    refine ⟨sl', io', ?_, by rw [List.length_cons, show k + (r.length + 1) = k + 1 + r.length by omega]; exact h3⟩
    unfold forGo
    rw [if_pos hc]
    rw [Option.bind_eq_some_iff] at e2
    obtain ⟨sl1, e1, e2⟩ := e2
    rw [e1]
    simp only [bind_some', e2]
    exact e3
/-- a loop, by a word of the turn -/
theorem for_rel {c : Chk} {tg : Tg} {body : DS} {items : List D} {sl : List S} {io : IO} (P : Nat → List S → IO → Prop) (h0 : P 0 sl io)
    (hs : ∀ i d sl io, items[i]? = some d → P i sl io → chk c io = true ∧ Nx ((tgGo tg d sl).bind fun sl1 => body sl1 io) (P (i + 1)))
    (he : ∀ sl io, P items.length sl io → chk c io = true) : Nx (forGo c tg body items sl io) (P items.length) := by
  have := forGo_rel (c := c) (tg := tg) (body := body) P items 0 sl io h0 (fun i d sl io hi hp => by
    rw [Nat.zero_add] at hp ⊢
    exact hs i d sl io hi hp) (fun sl io hp => he sl io (by rw [Nat.zero_add] at hp; exact hp))
  rw [Nat.zero_add] at this
  exact this
theorem Nx_for {it : DI} {c : Chk} {tg : Tg} {body : DS} {items : List D} {sl : List S} {io io1 : IO} (P : Nat → List S → IO → Prop) (hi : it sl io = some ((items, c), io1)) (h0 : P 0 sl io1)
    (hs : ∀ i d sl io, items[i]? = some d → P i sl io → chk c io = true ∧ Nx ((tgGo tg d sl).bind fun sl1 => body sl1 io) (P (i + 1)))
    (he : ∀ sl io, P items.length sl io → chk c io = true) : Nx (dFor it tg body sl io) (P items.length) := by
  rw [dFor_ap, hi]
  exact for_rel P h0 hs he
/-- the statement gives a -/
def Rt (o : Option R) (a : A) (P : IO → Prop) : Prop := ∃ io, o = some (.rt a io) ∧ P io
@[simp] theorem Rt_rt {a : A} {P : IO → Prop} : Rt (some (.rt a io)) a P ↔ P io :=
  ⟨fun ⟨_, e, h⟩ => by cases e; exact h, fun h => ⟨_, rfl, h⟩⟩
section
variable {p q : DS} {sl' : List S} {io' : IO} {a : A} {P0 P1 : List S → IO → Prop} {P : IO → Prop}
theorem seq_nx (h : p sl io = some (.nx sl' io')) : dSeq p q sl io = q sl' io' := by rw [dSeq_ap, h]; rfl
theorem seq_rt (h : p sl io = some (.rt a io')) : dSeq p q sl io = some (.rt a io') := by rw [dSeq_ap, h]; rfl
theorem Rt_seq (h : Nx (p sl io) P0) (k : ∀ sl io, P0 sl io → Rt (q sl io) a P) : Rt (dSeq p q sl io) a P := by
  obtain ⟨sl', io', e, h⟩ := h
  rw [seq_nx e]
  exact k _ _ h
theorem Rt_seq1 (h : Rt (p sl io) a P) : Rt (dSeq p q sl io) a P := by
  obtain ⟨io', e, h⟩ := h
  rw [seq_rt e]
  exact ⟨_, rfl, h⟩
theorem Nx_seq (h : Nx (p sl io) P0) (k : ∀ sl io, P0 sl io → Nx (q sl io) P1) : Nx (dSeq p q sl io) P1 := by
  obtain ⟨sl', io', e, h⟩ := h
  rw [seq_nx e]
  exact k _ _ h
theorem runD_rt {np ns : Nat} {body : DS} {ds : List D} {d : D} (hl : ds.length = np) (h : Rt (body (slots ns (ds.map .dat)) []) (.dat d) fun _ => True) (hi : im d = true) : runD np ns body ds = some (.dat d) := by
  obtain ⟨io, e, _⟩ := h
  unfold runD
  rw [if_pos hl, e]
  simp [hi]
theorem runD_tm {np ns : Nat} {body : DS} {ds es : List D} (hl : ds.length = np) (h : Rt (body (slots ns (ds.map .dat)) []) (.tmp es) fun _ => True) (hi : imAll es = true) : runD np ns body ds = some (.tmp es) := by
  obtain ⟨io, e, _⟩ := h
  unfold runD
  rw [if_pos hl, e]
  simp [hi]
theorem runD_rf {np ns k : Nat} {body : DS} {ds es : List D} (hl : ds.length = np) (h : Rt (body (slots ns (ds.map .dat)) []) (.ref k) fun io => io[k]? = some es) : runD np ns body ds = some (.tmp es) := by
  obtain ⟨io, e, h⟩ := h
  unfold runD
  rw [if_pos hl, e]
  simp [h]
theorem runD_nx {np ns : Nat} {body : DS} {ds : List D} (hl : ds.length = np) (h : Nx (body (slots ns (ds.map .dat)) []) fun _ _ => True) : runD np ns body ds = some (.dat .none) := by
  obtain ⟨sl, io, e, _⟩ := h
  unfold runD
  rw [if_pos hl, e]
  rfl
theorem runJ_rt {np ns : Nat} {body : DS} {ds js js' : List D} {d : D} (hl : ds.length + 1 = np) (h : Rt (body (slots ns (.ref 0 :: ds.map .dat)) [js]) (.dat d) fun io => io[0]? = some js') (hi : im d = true) : runJ np ns body js ds = some (.dat d, js') := by
  obtain ⟨io, e, h⟩ := h
  unfold runJ
  rw [if_pos hl, e]
  cases io with
  | nil => cases h
  | cons x r =>
    cases h
    simp [hi]
theorem runLaw_rt {ns : Nat} {body : DS} {xs : List Int} {b : Bool} (h : Rt (body (slots ns [.scr xs]) []) (.dat (.bool b)) fun _ => True) : runLaw ns body xs = some b := by
  obtain ⟨io, e, _⟩ := h
  unfold runLaw
  rw [e]
  rfl
end
/-- a comprehension without a test whose element changes nothing -/
theorem lcGo_map {c : Chk} {tg : Tg} {f : DE} {sl : List S} {io : IO} (hc : chk c io = true) (v : D → D) : ∀ (items : List D) (n : Nat), n + items.length ≤ LIM →
    (∀ d ∈ items, ∃ sl1 a, tgGo tg d sl = some sl1 ∧ f sl1 io = some (a, io) ∧ lcItem a = some (v d)) → lcGo c tg dYes f sl items n io = some (items.map v, io)
  | [], n, _, _ => by unfold lcGo; rw [if_pos hc]; rfl
  | d :: r, n, hn, h => by
    obtain ⟨sl1, a, e1, e2, e3⟩ := h d List.mem_cons_self
    rw [List.length_cons] at hn
    unfold lcGo
    rw [if_pos ⟨hc, by omega⟩, e1]
    simp only [bind_some', dYes_ap, if_true, e2, e3]
    rw [lcGo_map hc v r (n + 1) (by omega) fun d' hd => h d' (List.mem_cons_of_mem _ hd)]
    rfl
theorem lcGo_mapL {α : Type} {c : Chk} {tg : Tg} {f : DE} {sl : List S} {io : IO} (hc : chk c io = true) (k v : α → D) : ∀ (l : List α) (n : Nat), n + l.length ≤ LIM →
    (∀ a ∈ l, ∃ sl1 r, tgGo tg (k a) sl = some sl1 ∧ f sl1 io = some (r, io) ∧ lcItem r = some (v a)) → lcGo c tg dYes f sl (l.map k) n io = some (l.map v, io)
  | [], n, _, _ => by unfold lcGo; rw [List.map_nil]; simp only []; rw [if_pos hc]; rfl
  | d :: r, n, hn, h => by
    obtain ⟨sl1, a, e1, e2, e3⟩ := h d List.mem_cons_self
    rw [List.length_cons] at hn
    rw [List.map_cons]
    unfold lcGo
    rw [if_pos ⟨hc, by omega⟩, e1]
    simp only [bind_some', dYes_ap, if_true, e2, e3]
    rw [lcGo_mapL hc k v r (n + 1) (by omega) fun d' hd => h d' (List.mem_cons_of_mem _ hd)]
    rfl
theorem rng_mem {lo : Int} {n : Nat} {d : D} (h : d ∈ rngItems lo n) : ∃ i, i < n ∧ d = .int (lo + (i : Nat)) := by
  unfold rngItems at h
  rw [List.mem_map] at h
  obtain ⟨i, h1, h2⟩ := h
  exact ⟨i, List.mem_range.mp h1, h2.symm⟩
end
end DD
set_option Elab.async false
set_option linter.all false
set_option maxRecDepth 100000
/-! DD: data that are alike to themselves. -/
namespace DD
open PySem L2
mutual
def leaf : D → Bool
  | .none | .bool _ => true
  | .int i => decide (i.natAbs < 10 ^ 6)
  | .str x => x.cps.all (· < 0x110000)
  | .list xs | .tuple xs => leafs xs
  | .dict _ => false
def leafs : List D → Bool
  | [] => true
  | x :: xs => leaf x && leafs xs
end
theorem int_short {i : Int} (h : i.natAbs < 10 ^ 6) : (PyData.shown (.int i)).length ≤ 8 := by
  rw [PyData.shown_int]
  have := int_text_length_le10 (k := 6) (by omega) h
  have e : ((toString i : String) : Str).length = (toString i).length := ofString_length _
  omega
theorem log6 {i : Int} (h : i.natAbs < 10 ^ 6) : i.natAbs.log2 < 20 ∨ i.natAbs = 0 := by
  by_cases z : i.natAbs = 0
  · exact .inr z
  · exact .inl ((Nat.log2_lt z (k := 20)).mpr (Nat.lt_of_lt_of_le h (by decide)))
mutual
theorem leaf_lay : ∀ {d : D}, leaf d = true → PyData.canLay0 d = true ∧ PyData.showable d = true ∧ PyData.leavesShort 8 d = true
  | .none, _ => ⟨rfl, by simp only [PyData.showable], by simp only [PyData.leavesShort]⟩
  | .bool _, _ => ⟨rfl, by simp only [PyData.showable], by simp only [PyData.leavesShort]⟩
  | .int i, h => by
    have h' : i.natAbs < 10 ^ 6 := by simpa only [leaf, decide_eq_true_eq] using h
    refine ⟨rfl, ?_, ?_⟩
    · simp only [PyData.showable, decide_eq_true_eq]
      rcases log6 h' with z | z
      · omega
      · rw [z]; decide
    · simp only [PyData.leavesShort, decide_eq_true_eq]
      exact int_short h'
  | .str x, h => by
    have h' : x.cps.all (· < 0x110000) = true := by simpa only [leaf] using h
    refine ⟨by simpa only [PyData.canLay0, PyData.strOk] using h', by simp only [PyData.showable], ?_⟩
    simp only [PyData.leavesShort, List.all_eq_true, decide_eq_true_eq]
    intro c hc
    rw [← Array.all_toList, List.all_eq_true] at h'
    have := of_decide_eq_true (h' c hc)
    omega
  | .list xs, h => by
    obtain ⟨a, b, c⟩ := leafs_lay (xs := xs) (by simpa only [leaf] using h)
    exact ⟨by simpa only [PyData.canLay0] using a, by simpa only [PyData.showable] using b, by simpa only [PyData.leavesShort] using c⟩
  | .tuple xs, h => by
    obtain ⟨a, b, c⟩ := leafs_lay (xs := xs) (by simpa only [leaf] using h)
    exact ⟨by simpa only [PyData.canLay0] using a, by simpa only [PyData.showable] using b, by simpa only [PyData.leavesShort] using c⟩
  | .dict _, h => by simp only [leaf] at h; cases h
theorem leafs_lay : ∀ {xs : List D}, leafs xs = true → PyData.canLayAll0 xs = true ∧ PyData.showableAll xs = true ∧ PyData.leavesShortAll 8 xs = true
  | [], _ => ⟨rfl, by simp only [PyData.showableAll], by simp only [PyData.leavesShortAll]⟩
  | x :: xs, h => by
    have h' : leaf x = true ∧ leafs xs = true := by simpa only [leafs, Bool.and_eq_true] using h
    obtain ⟨a, b, c⟩ := leaf_lay h'.1
    obtain ⟨a', b', c'⟩ := leafs_lay h'.2
    exact ⟨by simp only [PyData.canLayAll0, a, a', Bool.and_self], by simp only [PyData.showableAll, b, b', Bool.and_self], by simp only [PyData.leavesShortAll, c, c', Bool.and_self]⟩
end
/-- small enough to be shown -/
structure Small (d : D) : Prop where
  lf : leaf d = true
  dp : PyData.depth d ≤ 64
  wt : PyData.weight d ≤ 9000
theorem Small.len {d : D} (h : Small d) : (PyData.shown d).length ≤ LIM := by
  have := PyData.shown_le 8 (by omega) d (leaf_lay h.lf).2.2
  have := h.wt
  unfold LIM
  omega
theorem Small.eq {d : D} (h : Small d) : eqD d d = some true := by
  unfold eqD
  split
  · rename_i b hb
    unfold eqS at hb
    split at hb <;> simp_all
  · have h1 := (leaf_lay h.lf).1
    have hs : SeqAt.shaped d = true := by
      unfold SeqAt.shaped
      rw [h1, decide_eq_true h.dp]; rfl
    rw [hs, SeqAt.eqv_refl d h1]; rfl
theorem Small.repr {d : D} (h : Small d) : reprD [d] = some (.dat (.str (PyData.shown d))) := by
  have h1 := leaf_lay h.lf
  have h2 := h.len
  have h3 := h.dp
  have h4 := PyData.hasDict_of_canLay d h1.1
  cases d with
  | none => rfl
  | bool b => rfl
  | int i =>
    have : i.natAbs < 1000000 := by have := h.lf; simpa only [leaf, decide_eq_true_eq] using this
    unfold reprD
    simp only []
    rw [if_pos this]
  | str s => unfold reprD; simp only []; rw [if_pos h2]
  | tuple ds =>
    unfold reprD; simp only []
    rw [if_pos]
    rw [h1.2.1, h4, decide_eq_true h2, decide_eq_true h3]; rfl
  | list ds =>
    unfold reprD; simp only []
    rw [if_pos]
    rw [h1.2.1, h4, decide_eq_true h2, decide_eq_true h3]; rfl
  | dict kvs => have := h.lf; simp only [leaf] at this; cases this
theorem int_wt {i : Int} (h : i.natAbs < 10 ^ 6) (n : Nat) (hn : 21 ≤ n) : PyData.weight (.int i) ≤ n := by
  simp only [PyData.weight]
  split
  · omega
  · rcases log6 h with z | z
    · omega
    · rw [z, show Nat.log2 0 = 0 by decide]; omega
theorem Small.int {i : Int} (h : i.natAbs < 1000000) : Small (.int i) := ⟨by simpa only [leaf, decide_eq_true_eq] using h, by simp only [PyData.depth]; omega, int_wt h 9000 (by omega)⟩
theorem Small.none : Small .none := ⟨rfl, by simp only [PyData.depth]; omega, by simp only [PyData.weight]; omega⟩
theorem Small.bool {b : Bool} : Small (.bool b) := ⟨rfl, by simp only [PyData.depth]; omega, by simp only [PyData.weight]; omega⟩
theorem Small.str {x : Str} (h : x.cps.all (· < 0x110000) = true) (h2 : x.length ≤ 9000) : Small (.str x) := ⟨by simpa only [leaf] using h, by simp only [PyData.depth]; omega, by simp only [PyData.weight]; exact h2⟩
/-- each of them of depth n and weight w -/
def Each (n w : Nat) (ds : List D) : Prop := ∀ d ∈ ds, leaf d = true ∧ PyData.depth d ≤ n ∧ PyData.weight d ≤ w
theorem Each.all {n w : Nat} : ∀ {ds : List D}, Each n w ds → leafs ds = true ∧ PyData.depthAll ds ≤ n ∧ PyData.weightAll ds ≤ ds.length * (w + 1)
  | [], _ => ⟨rfl, by simp only [PyData.depthAll]; omega, by simp only [PyData.weightAll]; omega⟩
  | d :: ds, h => by
    obtain ⟨a, b, c⟩ := h d List.mem_cons_self
    obtain ⟨a', b', c'⟩ := Each.all fun x hx => h x (List.mem_cons_of_mem _ hx)
    refine ⟨by simp only [leafs, a, a', Bool.and_self], by simp only [PyData.depthAll]; omega, ?_⟩
    simp only [PyData.weightAll, List.length_cons, Nat.add_mul]
    omega
theorem Small.tuple {n w : Nat} {ds : List D} (h : Each n w ds) (hn : n ≤ 63) (hw : ds.length * (w + 1) ≤ 9000) : Small (.tuple ds) := by
  obtain ⟨a, b, c⟩ := h.all
  exact ⟨by simpa only [leaf] using a, by simp only [PyData.depth]; omega, by simp only [PyData.weight]; omega⟩
end DD
set_option Elab.async false
set_option linter.all false
set_option maxRecDepth 100000
/-! DD: arithmetic without sides. -/
namespace DD
open PySem L2
theorem mul_r {i j : Int} (h0 : 0 ≤ j) (h1 : j < 4294967296) : mulD (.int i) (.int j) = some (.dat (.int (i * j))) := by
  rw [mulD_int, if_pos]
  unfold mulOk
  rw [Bool.or_eq_true, Bool.and_eq_true, Bool.and_eq_true]
  exact .inr ⟨decide_eq_true (by omega), decide_eq_true (by omega)⟩
theorem mul_l {i j : Int} (h0 : 0 ≤ i) (h1 : i < 4294967296) : mulD (.int i) (.int j) = some (.dat (.int (i * j))) := by
  rw [mulD_int, if_pos]
  unfold mulOk
  rw [Bool.or_eq_true, Bool.and_eq_true, Bool.and_eq_true]
  exact .inl ⟨decide_eq_true (by omega), decide_eq_true (by omega)⟩
theorem mod_p {i j : Int} (h0 : 0 < j) : modD (.int i) (.int j) = some (.dat (.int (i % j))) := by rw [modD_int, if_pos h0]
theorem fdiv_p {i j : Int} (h0 : 0 < j) (h1 : j < 1073741824) : fdivD (.int i) (.int j) = some (.dat (.int (i / j))) := by rw [fdivD_int, if_pos ⟨h0, h1⟩]
theorem at3_0 {x y z : D} : atI [x, y, z] 0 = some x := rfl
theorem at3_1 {x y z : D} : atI [x, y, z] 1 = some y := rfl
theorem at3_2 {x y z : D} : atI [x, y, z] 2 = some z := rfl
theorem ix3_0 : ixN 3 0 = some 0 := rfl
theorem ix3_2 : ixN 3 2 = some 2 := rfl
end DD
set_option Elab.async false
set_option linter.all false
set_option maxRecDepth 100000
namespace K74
open PySem PySem.Spec PyProof.Rows L2 DD
/-! the denotations, printed by gen.py -/
def d_is_integer : DS := dRet (dAndV (dIsi "int" (dVar 0)) (dNotV (dIsi "bool" (dVar 0))))
def run_is_integer : List D → Option A := runD 1 1 d_is_integer
def d_is_tree : DS := dSeq (dIf (dOrT (dNotT (dTru (dIsi "tuple" (dVar 0)))) (dOrT (dNotT (dTst (dChain leD leD (dC (.int 1)) (dCall lenD (dCons (dVar 0) (dNil))) (dC (.int 10))))) (dTst (dOp isntD (dOp idxD (dVar 0) (dC (.int 0))) (dC .none))))) (dRet (dC (.bool false))) (dNext)) (dSeq (dFor (dItR2 (dCons (dC (.int 1)) (dCons (dCall lenD (dCons (dVar 0) (dNil))) (dNil)))) (.one 1) (dIf (dOrT (dNotT (dTru (dFn run_is_integer (dCons (dOp idxD (dVar 0) (dVar 1)) (dNil))))) (dNotT (dTst (dChain leD ltD (dC (.int 0)) (dOp idxD (dVar 0) (dVar 1)) (dVar 1))))) (dRet (dC (.bool false))) (dNext))) (dRet (dC (.bool true))))
def run_is_tree : List D → Option A := runD 1 2 d_is_tree
def d_need_tree : DS := dIf (dNotT (dTru (dFn run_is_tree (dCons (dVar 0) (dNil))))) (dStuck) (dNext)
def run_need_tree : List D → Option A := runD 1 1 d_need_tree
def d_locale_there : DS := dRet (dAndV (dFn run_is_integer (dCons (dVar 1) (dNil))) (dChain leD ltD (dC (.int 0)) (dVar 1) (dCall lenD (dCons (dVar 0) (dNil)))))
def run_locale_there : List D → Option A := runD 2 2 d_locale_there
def d_wishes_there : DS := dSeq (dIf (dNotT (dTru (dIsi "tuple" (dVar 1)))) (dRet (dC (.bool false))) (dNext)) (dSeq (dFor (dItS (dVar 1)) (.one 2) (dIf (dNotT (dTru (dFn run_locale_there (dCons (dVar 0) (dCons (dVar 2) (dNil)))))) (dRet (dC (.bool false))) (dNext))) (dRet (dC (.bool true))))
def run_wishes_there : List D → Option A := runD 2 3 d_wishes_there
def d_is_wishes : DS := dSeq (dDrop (dFn run_need_tree (dCons (dVar 0) (dNil)))) (dRet (dFn run_wishes_there (dCons (dVar 0) (dCons (dVar 1) (dNil)))))
def run_is_wishes : List D → Option A := runD 2 2 d_is_wishes
def d_is_spot : DS := dRet (dAndV (dIsi "int" (dVar 1)) (dAndV (dNotV (dIsi "bool" (dVar 1))) (dChain leD ltD (dC (.int 0)) (dVar 1) (dCall lenD (dCons (dVar 0) (dNil))))))
def run_is_spot : List D → Option A := runD 2 2 d_is_spot
def d_is_spots : DS := dSeq (dIf (dNotT (dTru (dIsi "tuple" (dVar 1)))) (dRet (dC (.bool false))) (dNext)) (dSeq (dFor (dItE (dCons (dVar 1) (dNil))) (.many [2, 3]) (dSeq (dIf (dNotT (dTru (dFn run_is_spot (dCons (dVar 0) (dCons (dVar 3) (dNil)))))) (dRet (dC (.bool false))) (dNext)) (dIf (dAndT (dTst (dOp gtD (dVar 2) (dC (.int 0)))) (dTst (dOp leD (dVar 3) (dOp idxD (dVar 1) (dOp subD (dVar 2) (dC (.int 1))))))) (dRet (dC (.bool false))) (dNext)))) (dRet (dC (.bool true))))
def run_is_spots : List D → Option A := runD 2 4 d_is_spots
def d_is_swaps : DS := dSeq (dIf (dNotT (dTru (dIsi "tuple" (dVar 1)))) (dRet (dC (.bool false))) (dNext)) (dSeq (dOwn 2 (dLst (dNil))) (dSeq (dFor (dItS (dVar 1)) (.one 3) (dSeq (dIf (dOrT (dNotT (dTru (dIsi "tuple" (dVar 3)))) (dTst (dOp neO (dCall lenD (dCons (dVar 3) (dNil))) (dC (.int 2))))) (dRet (dC (.bool false))) (dNext)) (dSeq (dIf (dOrT (dNotT (dTru (dFn run_is_spot (dCons (dVar 0) (dCons (dOp idxD (dVar 3) (dC (.int 0))) (dNil)))))) (dNotT (dTru (dFn run_is_spot (dCons (dVar 0) (dCons (dOp idxD (dVar 3) (dC (.int 1))) (dNil))))))) (dRet (dC (.bool false))) (dNext)) (dApp 2 (dOp idxD (dVar 3) (dC (.int 0))))))) (dRet (dFn run_is_spots (dCons (dVar 0) (dCons (dCall tupleD (dCons (dVar 2) (dNil))) (dNil)))))))
def run_is_swaps : List D → Option A := runD 2 4 d_is_swaps
def d_door_fits : DS := dSeq (dIf (dOrT (dNotT (dTru (dIsi "tuple" (dVar 1)))) (dOrT (dTst (dOp neO (dCall lenD (dCons (dVar 1) (dNil))) (dC (.int 2)))) (dNotT (dTru (dIsi "str" (dOp idxD (dVar 1) (dC (.int 0)))))))) (dRet (dC (.bool false))) (dNext)) (dSeq (dUnp (.many [2, 3]) (dVar 1)) (dSeq (dIf (dOrT (dTst (dOp eqO (dVar 2) (dC (.str "only")))) (dTst (dOp eqO (dVar 2) (dC (.str "lift"))))) (dRet (dFn run_is_spots (dCons (dVar 0) (dCons (dVar 3) (dNil))))) (dNext)) (dSeq (dIf (dTst (dOp eqO (dVar 2) (dC (.str "swap")))) (dRet (dFn run_is_swaps (dCons (dVar 0) (dCons (dVar 3) (dNil))))) (dNext)) (dRet (dAndV (dOrV (dOp eqO (dVar 2) (dC (.str "head"))) (dOp eqO (dVar 2) (dC (.str "pad")))) (dFn run_is_wishes (dCons (dVar 0) (dCons (dVar 3) (dNil)))))))))
def run_door_fits : List D → Option A := runD 2 4 d_door_fits
def d_is_door : DS := dSeq (dDrop (dFn run_need_tree (dCons (dVar 0) (dNil)))) (dRet (dFn run_door_fits (dCons (dVar 0) (dCons (dVar 1) (dNil)))))
def run_is_door : List D → Option A := runD 2 2 d_is_door
def d_locales_written : DS := dSeq (dIf (dTst (dOp eqO (dCall lenD (dCons (dVar 0) (dNil))) (dC (.int 0)))) (dRet (dC (.str "-"))) (dNext)) (dRet (dMeth joinD (dC (.str " ")) (dCons (dLc (dItS (dVar 0)) (.one 1) (dYes) (dOp idxD (dC (.str "abcdefghij")) (dVar 1)) [1]) (dNil))))
def run_locales_written : List D → Option A := runD 1 2 d_locales_written
def d_locale_read : DS := dSeq (dIf (dOrT (dTst (dOp neO (dCall lenD (dCons (dVar 0) (dNil))) (dC (.int 1)))) (dTst (dOp ninO (dVar 0) (dSl (dC (.str "abcdefghij")) (dNo) (dPart (dVar 1)))))) (dRet (dC .none)) (dNext)) (dRet (dMeth indexD (dC (.str "abcdefghij")) (dCons (dVar 0) (dNil))))
def run_locale_read : List D → Option A := runD 2 2 d_locale_read
def d_none_written : DS := dSeq (dIf (dTst (dOp leD (dCall lenD (dCons (dVar 0) (dNil))) (dVar 1))) (dStuck) (dNext)) (dSeq (dIf (dTst (dOp neO (dOp idxD (dVar 0) (dVar 1)) (dC (.str "-")))) (dRet (dC (.bool false))) (dNext)) (dSeq (dIf (dTst (dOp gtD (dCall lenD (dCons (dVar 0) (dNil))) (dOp addD (dVar 1) (dC (.int 1))))) (dStuck) (dNext)) (dRet (dC (.bool true)))))
def run_none_written : List D → Option A := runD 2 2 d_none_written
def d_locales_read : DS := dSeq (dIf (dTru (dFn run_none_written (dCons (dVar 0) (dCons (dVar 1) (dNil))))) (dRet (dTup (dNil))) (dNext)) (dSeq (dOwn 4 (dLst (dNil))) (dSeq (dFor (dItR2 (dCons (dVar 1) (dCons (dCall lenD (dCons (dVar 0) (dNil))) (dNil)))) (.one 5) (dSeq (dSet 6 (dFn run_locale_read (dCons (dOp idxD (dVar 0) (dVar 5)) (dCons (dVar 2) (dNil))))) (dSeq (dIf (dOrT (dTst (dOp isD (dVar 6) (dC .none))) (dAndT (dTru (dVar 3)) (dAndT (dTst (dOp neO (dVar 4) (dLst (dNil)))) (dTst (dOp leD (dVar 6) (dOp idxD (dVar 4) (dNeg (dC (.int 1))))))))) (dStuck) (dNext)) (dApp 4 (dVar 6))))) (dRet (dCall tupleD (dCons (dVar 4) (dNil))))))
def run_locales_read : List D → Option A := runD 4 7 d_locales_read
def d_pairs_read : DS := dSeq (dIf (dTru (dFn run_none_written (dCons (dVar 0) (dCons (dVar 1) (dNil))))) (dRet (dTup (dNil))) (dNext)) (dSeq (dOwn 3 (dLst (dNil))) (dSeq (dFor (dItR2 (dCons (dVar 1) (dCons (dCall lenD (dCons (dVar 0) (dNil))) (dNil)))) (.one 4) (dSeq (dSet 5 (dOp idxD (dVar 0) (dVar 4))) (dSeq (dSet 6 (dFn run_locale_read (dCons (dSl (dVar 5) (dNo) (dPart (dC (.int 1)))) (dCons (dVar 2) (dNil))))) (dSeq (dSet 7 (dFn run_locale_read (dCons (dSl (dVar 5) (dPart (dC (.int 2))) (dNo)) (dCons (dVar 2) (dNil))))) (dSeq (dIf (dOrT (dTst (dOp isD (dVar 6) (dC .none))) (dOrT (dTst (dOp isD (dVar 7) (dC .none))) (dTst (dOp neO (dOp idxD (dVar 5) (dC (.int 1))) (dC (.str ">")))))) (dStuck) (dNext)) (dSeq (dIf (dAndT (dTst (dOp neO (dVar 3) (dLst (dNil)))) (dTst (dOp leD (dVar 6) (dOp idxD (dOp idxD (dVar 3) (dNeg (dC (.int 1)))) (dC (.int 0)))))) (dStuck) (dNext)) (dApp 3 (dTup (dCons (dVar 6) (dCons (dVar 7) (dNil))))))))))) (dRet (dCall tupleD (dCons (dVar 3) (dNil))))))
def run_pairs_read : List D → Option A := runD 3 8 d_pairs_read
def d_write_door : DS := dSeq (dDrop (dFn run_need_tree (dCons (dVar 0) (dNil)))) (dSeq (dIf (dNotT (dTru (dFn run_door_fits (dCons (dVar 0) (dCons (dVar 1) (dNil)))))) (dStuck) (dNext)) (dSeq (dUnp (.many [2, 3]) (dVar 1)) (dSeq (dIf (dTst (dOp neO (dVar 2) (dC (.str "swap")))) (dRet (dOp addD (dOp addD (dVar 2) (dC (.str " "))) (dFn run_locales_written (dCons (dVar 3) (dNil))))) (dNext)) (dSeq (dIf (dTst (dOp eqO (dCall lenD (dCons (dVar 3) (dNil))) (dC (.int 0)))) (dRet (dC (.str "swap -"))) (dNext)) (dRet (dMeth joinD (dC (.str " ")) (dCons (dOp addD (dLst (dCons (dC (.str "swap")) (dNil))) (dLc (dItS (dVar 3)) (.many [4, 5]) (dYes) (dFs [dFmt (dOp idxD (dC (.str "abcdefghij")) (dVar 4)), dC (.str ">"), dFmt (dOp idxD (dC (.str "abcdefghij")) (dVar 5))]) [4, 5])) (dNil))))))))
def run_write_door : List D → Option A := runD 2 6 d_write_door
def d_read_door : DS := dSeq (dDrop (dFn run_need_tree (dCons (dVar 0) (dNil)))) (dSeq (dSet 2 (dMeth splitD (dVar 1) (dCons (dC (.str " ")) (dNil)))) (dSeq (dSet 3 (dOp idxD (dVar 2) (dC (.int 0)))) (dSeq (dIf (dTst (dOp eqO (dVar 3) (dC (.str "swap")))) (dRet (dTup (dCons (dVar 3) (dCons (dFn run_pairs_read (dCons (dVar 2) (dCons (dC (.int 1)) (dCons (dCall lenD (dCons (dVar 0) (dNil))) (dNil))))) (dNil))))) (dNext)) (dSeq (dIf (dTst (dOp inO (dVar 3) (dTup (dCons (dC (.str "only")) (dCons (dC (.str "lift")) (dCons (dC (.str "head")) (dCons (dC (.str "pad")) (dNil)))))))) (dRet (dTup (dCons (dVar 3) (dCons (dFn run_locales_read (dCons (dVar 2) (dCons (dC (.int 1)) (dCons (dCall lenD (dCons (dVar 0) (dNil))) (dCons (dOp inO (dVar 3) (dTup (dCons (dC (.str "only")) (dCons (dC (.str "lift")) (dNil))))) (dNil)))))) (dNil))))) (dNext)) (dStuck)))))
def run_read_door : List D → Option A := runD 2 4 d_read_door
def d__law_fill : DS := dRet (dLst (dCons (dCall maxD (dCons (dC (.int 0)) (dCons (dOp subD (dVar 0) (dOp powD (dC (.int 10)) (dC (.int 18)))) (dNil)))) (dCons (dOp modD (dCall intD (dCons (dVar 0) (dNil))) (dC (.int 2147483587))) (dCons (dC (.int 0)) (dNil)))))
def run__law_fill : List D → Option A := runD 1 1 d__law_fill
def d__law_pull : DS := dSeq (dIf (dTst (dOp gtD (dOp idxD (dVar 0) (dC (.int 0))) (dC (.int 0)))) (dSeq (dSet 2 (dOp modD (dCall intD (dCons (dOp idxD (dVar 0) (dC (.int 0))) (dNil))) (dVar 1))) (dSeq (dPut (dVar 0) (dC (.int 0)) (dOp fdivD (dOp idxD (dVar 0) (dC (.int 0))) (dVar 1))) (dRet (dVar 2)))) (dNext)) (dSeq (dPut (dVar 0) (dC (.int 2)) (dOp addD (dOp idxD (dVar 0) (dC (.int 2))) (dC (.int 1)))) (dSeq (dSet 3 (dOp modD (dCall intD (dCons (dOp addD (dOp addD (dOp idxD (dVar 0) (dC (.int 1))) (dOp mulD (dOp mulD (dC (.int 104729)) (dOp idxD (dVar 0) (dC (.int 2)))) (dOp idxD (dVar 0) (dC (.int 2))))) (dOp mulD (dC (.int 31)) (dOp idxD (dVar 0) (dC (.int 2))))) (dNil))) (dC (.int 2147483629)))) (dSeq (dSet 3 (dOp modD (dCall intD (dCons (dOp addD (dOp addD (dOp mulD (dVar 3) (dVar 3)) (dOp mulD (dC (.int 48271)) (dOp idxD (dVar 0) (dC (.int 2))))) (dC (.int 5))) (dNil))) (dC (.int 2147483563)))) (dSeq (dSet 3 (dOp modD (dCall intD (dCons (dOp mulD (dVar 3) (dVar 3)) (dNil))) (dC (.int 2147483399)))) (dRet (dOp modD (dCall intD (dCons (dOp fdivD (dVar 3) (dC (.int 16))) (dNil))) (dVar 1)))))))
def run__law_pull : List D → List D → Option (A × List D) := runJ 2 4 d__law_pull
def d__law_some_world : DS := dSeq (dSet 2 (dOp addD (dC (.int 1)) (dFnJ run__law_pull (dCons (dVar 0) (dCons (dVar 1) (dNil)))))) (dSeq (dSet 3 (dFnJ run__law_pull (dCons (dVar 0) (dCons (dC (.int 6)) (dNil))))) (dSeq (dOwn 4 (dLst (dCons (dC .none) (dNil)))) (dSeq (dFor (dItR2 (dCons (dC (.int 1)) (dCons (dVar 2) (dNil)))) (.one 5) (dSeq (dSet 6 (dC (.int 0))) (dSeq (dIf (dOrT (dTst (dOp eqO (dVar 3) (dC (.int 0)))) (dTst (dOp eqO (dVar 3) (dC (.int 5))))) (dSet 6 (dFnJ run__law_pull (dCons (dVar 0) (dCons (dVar 5) (dNil))))) (dNext)) (dSeq (dIf (dTst (dOp eqO (dVar 3) (dC (.int 2)))) (dSet 6 (dOp subD (dVar 5) (dC (.int 1)))) (dNext)) (dSeq (dIf (dTst (dOp eqO (dVar 3) (dC (.int 3)))) (dSet 6 (dCall minD (dCons (dOp subD (dVar 5) (dC (.int 1))) (dCons (dOp fdivD (dVar 2) (dC (.int 2))) (dNil))))) (dNext)) (dSeq (dIf (dTst (dOp eqO (dVar 3) (dC (.int 4)))) (dSet 6 (dFnJ run__law_pull (dCons (dVar 0) (dCons (dCall minD (dCons (dVar 5) (dCons (dC (.int 4)) (dNil)))) (dNil))))) (dNext)) (dApp 4 (dVar 6)))))))) (dRet (dCall tupleD (dCons (dVar 4) (dNil)))))))
def run__law_some_world : List D → List D → Option (A × List D) := runJ 2 7 d__law_some_world
def d__law_up : DS := dSeq (dOwn 2 (dLst (dCons (dVar 1) (dNil)))) (dSeq (whGo (dAndT (dTst (dOp isntD (dOp idxD (dVar 0) (dOp idxD (dVar 2) (dNeg (dC (.int 1))))) (dC .none))) (dTst (dOp gtD (dOp idxD (dVar 0) (dOp idxD (dVar 2) (dNeg (dC (.int 1))))) (dC (.int 0))))) (dApp 2 (dOp idxD (dVar 0) (dOp idxD (dVar 2) (dNeg (dC (.int 1)))))) FUEL) (dRet (dVar 2)))
def run__law_up : List D → Option A := runD 2 3 d__law_up
def d__law_some_asks : DS := dSeq (dSet 3 (dCall minD (dCons (dVar 2) (dCons (dOp idxD (dLst (dCons (dC (.int 0)) (dCons (dC (.int 1)) (dCons (dC (.int 2)) (dCons (dC (.int 3)) (dCons (dC (.int 4)) (dCons (dC (.int 6)) (dCons (dOp fdivD (dVar 2) (dC (.int 2))) (dCons (dVar 2) (dNil)))))))))) (dFnJ run__law_pull (dCons (dVar 0) (dCons (dC (.int 8)) (dNil))))) (dNil))))) (dSeq (dSet 4 (dTup (dNil))) (dSeq (dFor (dItR1 (dCons (dVar 3) (dNil))) (.one 5) (dSeq (dSet 6 (dFnJ run__law_pull (dCons (dVar 0) (dCons (dC (.int 8)) (dNil))))) (dSeq (dSet 7 (dC (.int 0))) (dSeq (dIf (dTst (dOp gtD (dVar 6) (dC (.int 0)))) (dSet 7 (dFnJ run__law_pull (dCons (dVar 0) (dCons (dCall lenD (dCons (dVar 1) (dNil))) (dNil))))) (dNext)) (dSeq (dIf (dAndT (dTst (dOp gtD (dVar 6) (dC (.int 5)))) (dTst (dOp neO (dVar 4) (dTup (dNil))))) (dSeq (dSet 8 (dFn run__law_up (dCons (dVar 1) (dCons (dOp idxD (dVar 4) (dFnJ run__law_pull (dCons (dVar 0) (dCons (dCall lenD (dCons (dVar 4) (dNil))) (dNil))))) (dNil))))) (dSet 7 (dOp idxD (dVar 8) (dFnJ run__law_pull (dCons (dVar 0) (dCons (dCall lenD (dCons (dVar 8) (dNil))) (dNil))))))) (dNext)) (dSet 4 (dOp addD (dVar 4) (dTup (dCons (dVar 7) (dNil)))))))))) (dRet (dVar 4))))
def run__law_some_asks : List D → List D → Option (A × List D) := runJ 3 9 d__law_some_asks
def d__law_some_door : DS := dSeq (dSet 2 (dOp idxD (dLst (dCons (dC (.str "only")) (dCons (dC (.str "lift")) (dCons (dC (.str "swap")) (dCons (dC (.str "head")) (dCons (dC (.str "pad")) (dNil))))))) (dFnJ run__law_pull (dCons (dVar 0) (dCons (dC (.int 5)) (dNil)))))) (dSeq (dSet 3 (dOp idxD (dLst (dCons (dC (.int 0)) (dCons (dC (.int 1)) (dCons (dC (.int 2)) (dCons (dC (.int 3)) (dCons (dC (.int 4)) (dNil))))))) (dFnJ run__law_pull (dCons (dVar 0) (dCons (dC (.int 5)) (dNil)))))) (dSeq (dIf (dOrT (dTst (dOp eqO (dVar 2) (dC (.str "head")))) (dTst (dOp eqO (dVar 2) (dC (.str "pad"))))) (dRet (dTup (dCons (dVar 2) (dCons (dFnJ run__law_some_asks (dCons (dVar 0) (dCons (dVar 1) (dCons (dOp idxD (dLst (dCons (dC (.int 0)) (dCons (dC (.int 1)) (dCons (dC (.int 3)) (dCons (dC (.int 6)) (dCons (dC (.int 39)) (dNil))))))) (dVar 3)) (dNil))))) (dNil))))) (dNext)) (dSeq (dSet 4 (dLc (dItR1 (dCons (dCall lenD (dCons (dVar 1) (dNil))) (dNil))) (.one 5) (dTst (dOp ltD (dFnJ run__law_pull (dCons (dVar 0) (dCons (dC (.int 4)) (dNil)))) (dVar 3))) (dVar 5) [5])) (dSeq (dIf (dTst (dOp eqO (dVar 2) (dC (.str "swap")))) (dRet (dTup (dCons (dVar 2) (dCons (dCall tupleD (dCons (dLc (dItS (dVar 4)) (.one 5) (dYes) (dTup (dCons (dVar 5) (dCons (dFnJ run__law_pull (dCons (dVar 0) (dCons (dCall lenD (dCons (dVar 1) (dNil))) (dNil)))) (dNil)))) [5]) (dNil))) (dNil))))) (dNext)) (dRet (dTup (dCons (dVar 2) (dCons (dCall tupleD (dCons (dVar 4) (dNil))) (dNil)))))))))
def run__law_some_door : List D → List D → Option (A × List D) := runJ 2 6 d__law_some_door
def d__law_letters : DS := dSeq (dIf (dTst (dOp eqO (dCall listD (dCons (dVar 0) (dNil))) (dLst (dNil)))) (dRet (dC (.str "-"))) (dNext)) (dRet (dMeth joinD (dC (.str " ")) (dCons (dLc (dItS (dVar 0)) (.one 1) (dYes) (dOp idxD (dC (.str "abcdefghij")) (dVar 1)) [1]) (dNil))))
def run__law_letters : List D → Option A := runD 1 2 d__law_letters
def d__law_door_words : DS := dSeq (dIf (dOrT (dTst (dOp neO (dOp idxD (dVar 0) (dC (.int 0))) (dC (.str "swap")))) (dTst (dOp eqO (dOp idxD (dVar 0) (dC (.int 1))) (dTup (dNil))))) (dRet (dOp addD (dOp addD (dOp idxD (dVar 0) (dC (.int 0))) (dC (.str " "))) (dFn run__law_letters (dCons (dLc (dItS (dOp idxD (dVar 0) (dC (.int 1)))) (.one 1) (dYes) (dVar 1) [1]) (dNil))))) (dNext)) (dRet (dMeth joinD (dC (.str " ")) (dCons (dOp addD (dLst (dCons (dC (.str "swap")) (dNil))) (dLc (dItS (dOp idxD (dVar 0) (dC (.int 1)))) (.many [2, 3]) (dYes) (dOp addD (dOp addD (dOp idxD (dC (.str "abcdefghij")) (dVar 2)) (dC (.str ">"))) (dOp idxD (dC (.str "abcdefghij")) (dVar 3))) [2, 3])) (dNil))))
def run__law_door_words : List D → Option A := runD 1 4 d__law_door_words
def d__law_same : DS := dRet (dAndV (dOp eqO (dVar 0) (dVar 1)) (dOp eqO (dCall reprD (dCons (dVar 0) (dNil))) (dCall reprD (dCons (dVar 1) (dNil)))))
def run__law_same : List D → Option A := runD 2 2 d__law_same
def d_law : DS := dSeq (dFor (dItS (dOp addD (dLst (dCons (dOp addD (dOp powD (dC (.int 107)) (dC (.int 30))) (dC (.int 9))) (dNil))) (dScr 0 (dNo) (dPart (dC (.int 30)))))) (.one 1) (dSeq (dOwn 2 (dFn run__law_fill (dCons (dVar 1) (dNil)))) (dSeq (dSet 3 (dFnJ run__law_some_world (dCons (dVar 2) (dCons (dC (.int 10)) (dNil))))) (dSeq (dFor (dItR1 (dCons (dC (.int 3)) (dNil))) (.one 4) (dSeq (dSet 5 (dFnJ run__law_some_door (dCons (dVar 2) (dCons (dVar 3) (dNil))))) (dSeq (dSet 6 (dFn run__law_door_words (dCons (dVar 5) (dNil)))) (dIf (dOrT (dNotT (dTru (dFn run__law_same (dCons (dFn run_write_door (dCons (dVar 3) (dCons (dVar 5) (dNil)))) (dCons (dVar 6) (dNil)))))) (dNotT (dTru (dFn run__law_same (dCons (dFn run_read_door (dCons (dVar 3) (dCons (dVar 6) (dNil)))) (dCons (dVar 5) (dNil))))))) (dRet (dC (.bool false))) (dNext))))) (dIf (dOrT (dTst (dOp neO (dFn run_write_door (dFlip (dCons (dVar 5) (dCons (dVar 3) (dNil))))) (dVar 6))) (dTst (dOp isntB (dFn run_is_door (dCons (dVar 3) (dCons (dFn run_read_door (dFlip (dCons (dVar 6) (dCons (dVar 3) (dNil))))) (dNil)))) (dC (.bool true))))) (dRet (dC (.bool false))) (dNext)))))) (dRet (dC (.bool true)))
def run_law : List Int → Option Bool := runLaw 7 d_law
end K74
set_option Elab.async false
set_option linter.all false
set_option maxRecDepth 100000
set_option maxHeartbeats 1000000
namespace K74
open PySem L2 DD TL StrLaws
def nD (n : Nat) : D := .int (n : Int)
def dW (ws : List Nat) : D := .tuple (ws.map nD)
def dT (ps : List Nat) : D := .tuple (.none :: ps.map nD)
def TreeOk (ps : List Nat) : Prop := ps.length ≤ 9 ∧ ∀ (i p : Nat), ps[i]? = some p → p ≤ i
def WOk (ps ws : List Nat) : Prop := (∀ w ∈ ws, w < ps.length + 1) ∧ ws.length ≤ 1000
theorem im_nD (n : Nat) : im (nD n) = true := rfl
@[simp] theorem imAll_nDs (l : List Nat) : imAll (l.map nD) = true := imAll_map im_nD l
theorem r_is_integer (i : Int) : run_is_integer [.int i] = some (.dat (.bool true)) := by
  simp [run_is_integer, runD, d_is_integer, slots]
theorem r_locale_there (ps : List Nat) (w : Nat) (h : w < ps.length + 1) : run_locale_there [dT ps, nD w] = some (.dat (.bool true)) := by
  simp [run_locale_there, runD, d_locale_there, slots, dT, nD, r_is_integer]
  omega
theorem at_cons (d : D) (l : List D) (i : Nat) : atI (d :: l) (1 + (i : Int)) = l[i]? := by
  rw [show (1 + (i : Int)) = ((i + 1 : Nat) : Int) by omega]
  cases h : l[i]? with
  | some x => exact atI_nat (by simpa using h)
  | none =>
    have hl := List.getElem?_eq_none_iff.mp h
    unfold atI ixN
    rw [if_pos (by omega), if_neg (by rw [List.length_cons]; omega)]; rfl
theorem at_zero (d : D) (l : List D) : atI (d :: l) 0 = some d := atI_nat (j := 0) rfl
theorem r_is_tree (ps : List Nat) (h : TreeOk ps) : run_is_tree [dT ps] = some (.dat (.bool true)) := by
  obtain ⟨h1, h2⟩ := h
  have e10 : (1 : Int) ≤ (ps.length : Int) + 1 ∧ (ps.length : Int) + 1 ≤ 10 := by omega
  have hr := fun io => rng2K_ap (io := io) (i := 1) (j := (ps.length : Int) + 1) (n := ps.length) (by omega) (by omega) (by omega)
  refine runD_rt rfl ?_ rfl
  unfold d_is_tree
  refine Rt_seq (P0 := fun sl io => sl = [.dat (dT ps), .un] ∧ io = []) ?_ ?_
  · simp [slots, dT, at_zero, e10.1, e10.2]
  rintro sl io ⟨rfl, rfl⟩
  refine Rt_seq (Nx_for (items := rngItems 1 ps.length) (c := none) (io1 := []) (fun _ sl io => ∃ s', sl = [.dat (dT ps), s'] ∧ io = []) ?_ ⟨_, rfl, rfl⟩ ?_ fun _ _ _ => rfl) ?_
  · simp [dT, hr]
  · rintro i d sl io hi ⟨s', rfl, rfl⟩
    obtain ⟨hil, rfl⟩ := rngItems_get hi
    have hp : ps[i]? = some ps[i] := List.getElem?_eq_getElem hil
    have hle := h2 i _ hp
    have h3 : (0 : Int) ≤ (ps[i] : Int) := by omega
    have h4 : (ps[i] : Int) < 1 + (i : Int) := by omega
    simp [dT, at_cons, hp, nD, r_is_integer, h3, h4]
  · rintro sl io -
    simp
theorem r_need_tree (ps : List Nat) (h : TreeOk ps) : run_need_tree [dT ps] = some (.dat .none) := by
  simp [run_need_tree, runD, d_need_tree, slots, r_is_tree ps h]
theorem r_wishes_there (ps ws : List Nat) (h : WOk ps ws) : run_wishes_there [dT ps, dW ws] = some (.dat (.bool true)) := by
  simp [run_wishes_there, runD, d_wishes_there, slots, dW]
  have key := for_rel (c := none) (tg := .one 2) (body := dIf (dNotT (dTru (dFn run_locale_there (dCons (dVar 0) (dCons (dVar 2) dNil))))) (dRet (dC (.bool false))) dNext)
    (items := ws.map nD) (sl := [.dat (dT ps), .dat (dW ws), .un]) (io := []) (fun _ sl io => ∃ s', sl = [.dat (dT ps), .dat (dW ws), s'] ∧ io = []) ⟨_, rfl, rfl⟩ (by
      rintro i d sl io hi ⟨s', rfl, rfl⟩
      rw [List.getElem?_map, Option.map_eq_some_iff] at hi
      obtain ⟨w, hw, rfl⟩ := hi
      simp [r_locale_there ps w (h.1 w (List.mem_of_getElem? hw))]) (fun _ _ _ => rfl)
  obtain ⟨sl', io', e, s', rfl, rfl⟩ := key
  simp only [dW] at e
  simp [e]
def ltr (w : Nat) : Str := ⟨#[97 + w]⟩
theorem ltr_at : ∀ w : Nat, w < 10 → atI ("abcdefghij" : Str).cps.toList (w : Int) = some ((97 + w : Nat)) := by decide +kernel
theorem abc_len : ("abcdefghij" : Str).length ≤ LIM := by decide +kernel
theorem r_letter (w : Nat) (h : w < 10) : idxD (.str "abcdefghij") (nD w) = some (.dat (.str (ltr w))) := by
  rw [nD, idxD_str, if_pos abc_len, ltr_at w h]; rfl
def lets (ws : List Nat) : Str := if ws = [] then "-" else Txt.join " " (ws.map ltr)
theorem join_small (ws : List Nat) (h : ws.length ≤ 1000) : joinLen " " (ws.map ltr) ≤ LIM := by
  have : ∀ l : List Nat, ((l.map ltr).map (·.length)).sum = l.length := by
    intro l
    induction l with
    | nil => rfl
    | cons a l ih => rw [List.map_cons, List.map_cons, List.sum_cons, ih, List.length_cons]; show 1 + l.length = _; omega
  unfold joinLen
  rw [this, List.length_map, show (" " : Str).length = 1 by decide +kernel]
  unfold LIM
  omega
theorem lets_comp (ws : List Nat) (hw : ∀ w ∈ ws, w < 10) (hl : ws.length ≤ 1000) (sl : List S) (io : IO) (k : Nat) (hk : k < sl.length) :
    lcGo none (.one k) dYes (dOp idxD (dC (.str "abcdefghij")) (dVar k)) sl (ws.map nD) 0 io = some ((ws.map ltr).map .str, io) := by
  rw [List.map_map]
  refine lcGo_mapL rfl nD (PyData.str ∘ ltr) ws 0 (by unfold LIM; omega) fun w hm => ⟨_, .dat (.str (ltr w)), rfl, ?_, ?_⟩
  · simp only [dOp_ap, dC_ap, bind_some', opK_ap, opL_ap, dVar_ap, List.getElem?_set_self hk, varK_dat, vw_dat, r_letter w (hw w hm), Option.map_some]
  · rfl
theorem r_locales_written (ws : List Nat) (hw : ∀ w ∈ ws, w < 10) (hl : ws.length ≤ 1000) : run_locales_written [dW ws] = some (.dat (.str (lets ws))) := by
  have e := fun sl => lets_comp ws hw hl sl [] 1
  unfold lets
  by_cases h0 : ws = []
  · subst h0
    simp [run_locales_written, runD, d_locales_written, slots, dW]
  · have hn : ws.length ≠ 0 := fun z => h0 (List.length_eq_zero_iff.mp z)
    have e1 := e [.dat (dW ws), .un] (by simp)
    simp [run_locales_written, runD, d_locales_written, slots, dW, h0, hn] at e1 ⊢
    simp [e1, ← List.map_map, join_small ws hl]
theorem in_abc : ∀ w : Nat, w < 10 → ∀ c : Nat, c < 11 → w < c → inD (.str (ltr w)) (.str (cutS "abcdefghij" none (some (c : Int)))) = some true := by decide +kernel
theorem occ_abc : ∀ w : Nat, w < 10 → Builtin.Str.occurrences "abcdefghij" (ltr w) 0 ("abcdefghij" : Str).length 1 = [w] := by decide +kernel
theorem ix_abc (w : Nat) (h : w < 10) : indexD "abcdefghij" [.str (ltr w)] = some (.dat (nD w)) := by
  unfold indexD
  simp only [occ_abc w h]
  rfl
theorem ltr_len (w : Nat) : (ltr w).length = 1 := rfl
theorem r_locale_read (w c : Nat) (h : w < c) (hc : c < 11) : run_locale_read [.str (ltr w), nD c] = some (.dat (nD w)) := by
  have hw : w < 10 := by omega
  refine runD_rt rfl ?_ rfl
  unfold d_locale_read
  have e1 : sliceD (.str "abcdefghij") none (some (c : Int)) = some (.dat (.str (cutS "abcdefghij" none (some (c : Int))))) := by rw [sliceD_str, if_pos abc_len]
  refine Rt_seq (P0 := fun sl io => sl = [.dat (.str (ltr w)), .dat (nD c)] ∧ io = []) ?_ ?_
  · have e2 : lenD [.str (ltr w)] = some (.dat (.int 1)) := by rw [lenD_str, if_pos (by rw [ltr_len]; decide)]; rfl
    simp [slots, -lenD_str, e2, nD, -sliceD_str, e1, in_abc w hw c hc h]
  rintro sl io ⟨rfl, rfl⟩
  simp [ix_abc w hw]
theorem ltr_dash : ∀ w : Nat, w < 10 → ltr w ≠ "-" := by decide +kernel
def lD (w : Nat) : D := .str (ltr w)
theorem im_lD (n : Nat) : im (lD n) = true := rfl
theorem take_snoc {α : Type} {l : List α} {i : Nat} {a : α} (h : l[i]? = some a) : l.take (i + 1) = l.take i ++ [a] := by
  rw [List.take_add_one, h]; rfl
theorem sp_tl : tl (" " : Str) = 32 :: [] := by decide +kernel
theorem sp_k : (" " : Str).cps.all (· < 256) = true := by decide +kernel
theorem ltr_tl (w : Nat) : tl (ltr w) = [97 + w] := rfl
theorem dash_join : Txt.join " " [("-" : Str)] = "-" := by decide +kernel
theorem sum_ones (l : List Nat) : ((l.map ltr).map (·.length)).sum = l.length := by
  induction l with
  | nil => rfl
  | cons a l ih => rw [List.map_cons, List.map_cons, List.sum_cons, ih, List.length_cons]; show 1 + l.length = _; omega
theorem sp_len : (" " : Str).length = 1 := by decide +kernel
theorem lets_len (ws : List Nat) : (lets ws).length ≤ 2 * ws.length + 1 := by
  unfold lets
  split
  · rename_i h; subst h; decide +kernel
  · rw [join_eq]
    have := join_length_le " " (ws.map ltr)
    rw [sum_ones, List.length_map, sp_len] at this
    omega
theorem TreeOk.lt {ps : List Nat} (h : TreeOk ps) {w : Nat} (hw : w ∈ ps) : w < 9 := by
  obtain ⟨i, hi⟩ := List.getElem?_of_mem hw
  have := h.2 i w hi
  have := (List.getElem?_eq_some_iff.mp hi).1
  have := h.1
  omega
theorem WOk.lt {ps ws : List Nat} (ht : TreeOk ps) (h : WOk ps ws) {w : Nat} (hw : w ∈ ws) : w < 10 := by
  have := h.1 w hw
  have := ht.1
  omega
theorem lenT (ps : List Nat) : lenD [dT ps] = some (.dat (.int ((ps.length : Int) + 1))) := by
  simp [dT]
theorem lenT' (ps : List Nat) : lenD [dT ps] = some (.dat (nD (ps.length + 1))) := by
  rw [lenT]; rfl
theorem r_same {d : D} (h : Small d) : run__law_same [d, d] = some (.dat (.bool true)) := by
  refine runD_rt rfl ?_ rfl
  unfold d__law_same
  simp [slots, h.eq, h.repr]
theorem joinL_mem {S : List Nat} {x : Nat} : ∀ {ps : List (List Nat)}, x ∈ joinL S ps → x ∈ S ∨ ∃ p ∈ ps, x ∈ p
  | [], h => by cases h
  | [p], h => .inr ⟨p, List.mem_singleton.mpr rfl, h⟩
  | p :: q :: r, h => by
    have h' : x ∈ p ++ (S ++ joinL S (q :: r)) := h
    rcases List.mem_append.mp h' with h | h
    · exact .inr ⟨p, List.mem_cons_self, h⟩
    rcases List.mem_append.mp h with h | h
    · exact .inl h
    rcases joinL_mem h with h | ⟨y, hy, h⟩
    · exact .inl h
    · exact .inr ⟨y, List.mem_cons_of_mem _ hy, h⟩
theorem lets_small (ws : List Nat) (hw : ∀ w ∈ ws, w < 10) (hl : ws.length ≤ 1000) : Small (.str (lets ws)) := by
  refine Small.str ?_ (by have := lets_len ws; omega)
  unfold lets
  split
  · decide +kernel
  · rw [join_eq, ← Array.all_toList]
    show (tl (Str.join " " (ws.map ltr))).all _ = true
    rw [tl_join, List.all_eq_true]
    intro x hx
    rcases joinL_mem hx with h | ⟨p, hp, h⟩
    · rw [sp_tl, List.mem_singleton] at h
      subst h; decide
    · obtain ⟨y, hy, rfl⟩ := List.mem_map.mp hp
      obtain ⟨w, hw', rfl⟩ := List.mem_map.mp hy
      rw [ltr_tl, List.mem_singleton] at h
      have := hw w hw'
      subst h
      exact decide_eq_true (by omega)
theorem nD_each {l : List Nat} (h : ∀ w ∈ l, w < 10) : Each 0 21 (l.map nD) := fun d hd => by
  obtain ⟨w, hw, rfl⟩ := List.mem_map.mp hd
  have := h w hw
  have h6 : ((w : Int)).natAbs < 10 ^ 6 := by omega
  exact ⟨(Small.int h6).lf, by unfold nD; simp only [PyData.depth]; omega, int_wt h6 21 (by omega)⟩
theorem dW_small (ws : List Nat) (hw : ∀ w ∈ ws, w < 10) (hl : ws.length ≤ 100) : Small (dW ws) :=
  Small.tuple (nD_each hw) (by omega) (by rw [List.length_map]; omega)
theorem dT_small (ps : List Nat) (h : TreeOk ps) : Small (dT ps) := by
  refine Small.tuple (n := 0) (w := 21) (fun d hd => ?_) (by omega) (by rw [List.length_cons, List.length_map]; have := h.1; omega)
  rcases List.mem_cons.mp hd with rfl | hd
  · exact ⟨rfl, by simp only [PyData.depth]; omega, by simp only [PyData.weight]; omega⟩
  · exact nD_each (fun w hw => by have := h.lt hw; omega) d hd
def jar (a b c : Int) : List D := [.int a, .int b, .int c]
def JarOk (n : Nat) (js : List D) : Prop := ∃ a b c : Int, js = jar a b c ∧ 0 ≤ a ∧ 0 ≤ b ∧ b < 2147483587 ∧ 0 ≤ c ∧ c ≤ (n : Int)
theorem r_fill (cell : Int) : ∃ js, run__law_fill [.int cell] = some (.tmp js) ∧ JarOk 0 js := by
  refine ⟨jar (if cell - 10 ^ 18 > 0 then cell - 10 ^ 18 else 0) (cell % 2147483587) 0, ?_, _, _, _, rfl, ?_, by omega, by omega, by omega, by omega⟩
  · refine runD_tm rfl ?_ rfl
    unfold d__law_fill
    have e1 : powD (.int 10) (.int 18) = some (.dat (.int (10 ^ 18))) := by rw [powD_int, if_pos (by decide)]; rfl
    have e2 : 3 ≤ LIM := by decide
    simp [slots, e1, -powD_int, mod_p (show (0 : Int) < 2147483587 by decide), -modD_int, e2, jar]
  · split <;> omega
theorem r_pull {n : Nat} {js : List D} (h : JarOk n js) (hn : n ≤ 1000000) (size : Int) (h1 : 1 ≤ size) (h2 : size ≤ 1000000) :
    ∃ (d : Int) (js' : List D), run__law_pull js [.int size] = some (.dat (.int d), js') ∧ 0 ≤ d ∧ d < size ∧ JarOk (n + 1) js' := by
  obtain ⟨a, b, c, rfl, ha, hb, hb', hc, hc'⟩ := h
  by_cases hp : 0 < a
  · refine ⟨a % size, jar (a / size) b c, ?_, Int.emod_nonneg _ (by omega), Int.emod_lt_of_pos _ (by omega), _, _, _, rfl, Int.ediv_nonneg ha (by omega), hb, hb', hc, by omega⟩
    refine runJ_rt rfl ?_ rfl
    unfold d__law_pull
    refine Rt_seq1 ?_
    have e1 := mod_p (i := a) (j := size) (by omega)
    have e2 := fdiv_p (i := a) (j := size) (by omega) (by omega)
    simp [slots, jar, at3_0, hp, -modD_int, e1, -fdivD_int, e2, ix3_0]
  · have e0 : a = 0 := by omega
    subst e0
    suffices hs : ∃ s : Int, Rt (d__law_pull (slots 4 (.ref 0 :: ([.int size] : List D).map .dat)) [jar 0 b c]) (.dat (.int (s % size))) fun io => io[0]? = some (jar 0 b (c + 1)) by
      obtain ⟨s, hs⟩ := hs
      exact ⟨s % size, jar 0 b (c + 1), runJ_rt rfl hs rfl, Int.emod_nonneg _ (by omega), Int.emod_lt_of_pos _ (by omega), _, _, _, rfl, by omega, hb, hb', by omega, by omega⟩
    generalize hc1 : c + 1 = c1
    have p1 : 0 ≤ c1 := by omega
    have p2 : c1 < 4294967296 := by omega
    let s1 : Int := (b + 104729 * c1 * c1 + 31 * c1) % 2147483629
    have hs1 : 0 ≤ s1 ∧ s1 < 2147483629 := ⟨Int.emod_nonneg _ (by omega), Int.emod_lt_of_pos _ (by omega)⟩
    let s2 : Int := (s1 * s1 + 48271 * c1 + 5) % 2147483563
    have hs2 : 0 ≤ s2 ∧ s2 < 2147483563 := ⟨Int.emod_nonneg _ (by omega), Int.emod_lt_of_pos _ (by omega)⟩
    let s3 : Int := (s2 * s2) % 2147483399
    have hs3 : 0 ≤ s3 ∧ s3 < 2147483399 := ⟨Int.emod_nonneg _ (by omega), Int.emod_lt_of_pos _ (by omega)⟩
    refine ⟨s3 / 16, ?_⟩
    unfold d__law_pull
    refine Rt_seq (P0 := fun sl io => sl = [.ref 0, .dat (.int size), .un, .un] ∧ io = [jar 0 b c]) ?_ ?_
    · simp [slots, jar, at3_0]
    rintro sl io ⟨rfl, rfl⟩
    refine Rt_seq (P0 := fun sl io => sl = [.ref 0, .dat (.int size), .un, .un] ∧ io = [jar 0 b c1]) ?_ ?_
    · simp [jar, at3_2, ix3_2, hc1]
    rintro sl io ⟨rfl, rfl⟩
    refine Rt_seq (P0 := fun sl io => sl = [.ref 0, .dat (.int size), .un, .dat (.int s1)] ∧ io = [jar 0 b c1]) ?_ ?_
    · have e1 := mul_r (i := 104729) p1 p2
      have e2 := mul_r (i := 104729 * c1) p1 p2
      have e3 := mul_r (i := 31) p1 p2
      have e4 := mod_p (i := b + 104729 * c1 * c1 + 31 * c1) (j := 2147483629) (by decide)
      simp [jar, at3_1, at3_2, -mulD_int, -modD_int, e1, e2, e3, e4, s1]
    rintro sl io ⟨rfl, rfl⟩
    refine Rt_seq (P0 := fun sl io => sl = [.ref 0, .dat (.int size), .un, .dat (.int s2)] ∧ io = [jar 0 b c1]) ?_ ?_
    · have e1 := mul_r (i := s1) hs1.1 (by omega)
      have e2 := mul_r (i := 48271) p1 p2
      have e4 := mod_p (i := s1 * s1 + 48271 * c1 + 5) (j := 2147483563) (by decide)
      simp [jar, at3_1, at3_2, -mulD_int, -modD_int, e1, e2, e4, s2]
    rintro sl io ⟨rfl, rfl⟩
    refine Rt_seq (P0 := fun sl io => sl = [.ref 0, .dat (.int size), .un, .dat (.int s3)] ∧ io = [jar 0 b c1]) ?_ ?_
    · have e1 := mul_r (i := s2) hs2.1 (by omega)
      have e4 := mod_p (i := s2 * s2) (j := 2147483399) (by decide)
      simp [jar, at3_1, at3_2, -mulD_int, -modD_int, e1, e4, s3]
    rintro sl io ⟨rfl, rfl⟩
    have e1 := fdiv_p (i := s3) (j := 16) (by decide) (by decide)
    have e2 := mod_p (i := s3 / 16) (j := size) (by omega)
    simp [-fdivD_int, -modD_int, e1, e2]
theorem JarOk.mono {n m : Nat} {js : List D} (h : JarOk n js) (hm : n ≤ m) : JarOk m js := by
  obtain ⟨a, b, c, e, h1, h2, h3, h4, h5⟩ := h
  exact ⟨a, b, c, e, h1, h2, h3, h4, by omega⟩
theorem pull_ex {sl : List S} {js : List D} {rest : IO} {X : DE} {n : Nat} {size : Int} (h0 : sl[0]? = some (.ref 0)) (hx : X sl (js :: rest) = some (.dat (.int size), js :: rest)) (hj : JarOk n js) (hn : n ≤ 1000000) (h1 : 1 ≤ size) (h2 : size ≤ 1000000) :
    ∃ (d : Int) (js' : List D), dFnJ run__law_pull (dCons (dVar 0) (dCons X dNil)) sl (js :: rest) = some (.dat (.int d), js' :: rest) ∧ 0 ≤ d ∧ d < size ∧ JarOk (n + 1) js' := by
  obtain ⟨d, js', e, h3, h4, h5⟩ := r_pull hj hn size h1 h2
  refine ⟨d, js', ?_, h3, h4, h5⟩
  simp [h0, hx, e]
def Up (ps : List Nat) : Prop := ∀ (i p : Nat), ps[i]? = some p → p ≤ i
theorem Up.snoc {ps : List Nat} (h : Up ps) {p : Nat} (hp : p ≤ ps.length) : Up (ps ++ [p]) := by
  intro i q e
  rw [List.getElem?_append] at e
  split at e
  · exact h i q e
  · rename_i hi
    have : i - ps.length = 0 := by
      have := (List.getElem?_eq_some_iff.mp e).1
      rw [List.length_singleton] at this
      omega
    rw [this] at e
    cases e
    omega
theorem r_some_world {n : Nat} {js : List D} (h : JarOk n js) (hn : n ≤ 1000) : ∃ ps js', run__law_some_world js [.int 10] = some (.dat (dT ps), js') ∧ TreeOk ps ∧ JarOk (n + 20) js' := by
  suffices hs : ∃ ps js', Rt (d__law_some_world (slots 7 (.ref 0 :: ([.int 10] : List D).map .dat)) [js]) (.dat (dT ps)) (fun io => io[0]? = some js') ∧ TreeOk ps ∧ JarOk (n + 20) js' by
    obtain ⟨ps, js', h1, h2, h3⟩ := hs
    exact ⟨ps, js', runJ_rt rfl h1 (by show imAll _ = true; simp), h2, h3⟩
  obtain ⟨d1, js1, e1, h1, h1', j1⟩ := pull_ex (sl := [.ref 0, .dat (.int 10), .un, .un, .un, .un, .un]) (X := dVar 1) (rest := []) rfl rfl h (by omega) (by decide) (by decide)
  obtain ⟨d2, js2, e2, h2, h2', j2⟩ := pull_ex (sl := [.ref 0, .dat (.int 10), .dat (.int (1 + d1)), .un, .un, .un, .un]) (X := dC (.int 6)) (rest := []) rfl rfl j1 (by omega) (by decide) (by decide)
  obtain ⟨m, hm⟩ : ∃ m : Nat, d1 = (m : Int) := ⟨d1.toNat, by omega⟩
  subst hm
  have hr := fun io => rng2K_ap (io := io) (i := 1) (j := 1 + (m : Int)) (n := m) (by omega) (by omega) (by omega)
  have key : Nx ((dFor (dItR2 (dCons (dC (.int 1)) (dCons (dVar 2) (dNil)))) (.one 5) (dSeq (dSet 6 (dC (.int 0))) (dSeq (dIf (dOrT (dTst (dOp eqO (dVar 3) (dC (.int 0)))) (dTst (dOp eqO (dVar 3) (dC (.int 5))))) (dSet 6 (dFnJ run__law_pull (dCons (dVar 0) (dCons (dVar 5) (dNil))))) (dNext)) (dSeq (dIf (dTst (dOp eqO (dVar 3) (dC (.int 2)))) (dSet 6 (dOp subD (dVar 5) (dC (.int 1)))) (dNext)) (dSeq (dIf (dTst (dOp eqO (dVar 3) (dC (.int 3)))) (dSet 6 (dCall minD (dCons (dOp subD (dVar 5) (dC (.int 1))) (dCons (dOp fdivD (dVar 2) (dC (.int 2))) (dNil))))) (dNext)) (dSeq (dIf (dTst (dOp eqO (dVar 3) (dC (.int 4)))) (dSet 6 (dFnJ run__law_pull (dCons (dVar 0) (dCons (dCall minD (dCons (dVar 5) (dCons (dC (.int 4)) (dNil)))) (dNil))))) (dNext)) (dApp 4 (dVar 6))))))))
      [.ref 0, .dat (.int 10), .dat (.int (1 + m)), .dat (.int d2), .ref 1, .un, .un] [js2, [.none]])
      (fun sl io => ∃ s5 s6 ps js', sl = [.ref 0, .dat (.int 10), .dat (.int (1 + m)), .dat (.int d2), .ref 1, s5, s6] ∧ io = [js', .none :: ps.map nD] ∧ ps.length = m ∧ Up ps ∧ JarOk (n + 2 + 2 * m) js') := by
    have hlen : (rngItems 1 m).length = m := by unfold rngItems; simp
    have := Nx_for (items := rngItems 1 m) (c := none) (io1 := [js2, [.none]]) (it := dItR2 (dCons (dC (.int 1)) (dCons (dVar 2) (dNil)))) (tg := .one 5) (sl := [.ref 0, .dat (.int 10), .dat (.int (1 + m)), .dat (.int d2), .ref 1, .un, .un]) (io := [js2, [.none]])
      (body := (dSeq (dSet 6 (dC (.int 0))) (dSeq (dIf (dOrT (dTst (dOp eqO (dVar 3) (dC (.int 0)))) (dTst (dOp eqO (dVar 3) (dC (.int 5))))) (dSet 6 (dFnJ run__law_pull (dCons (dVar 0) (dCons (dVar 5) (dNil))))) (dNext)) (dSeq (dIf (dTst (dOp eqO (dVar 3) (dC (.int 2)))) (dSet 6 (dOp subD (dVar 5) (dC (.int 1)))) (dNext)) (dSeq (dIf (dTst (dOp eqO (dVar 3) (dC (.int 3)))) (dSet 6 (dCall minD (dCons (dOp subD (dVar 5) (dC (.int 1))) (dCons (dOp fdivD (dVar 2) (dC (.int 2))) (dNil))))) (dNext)) (dSeq (dIf (dTst (dOp eqO (dVar 3) (dC (.int 4)))) (dSet 6 (dFnJ run__law_pull (dCons (dVar 0) (dCons (dCall minD (dCons (dVar 5) (dCons (dC (.int 4)) (dNil)))) (dNil))))) (dNext)) (dApp 4 (dVar 6))))))))
      (fun i sl io => ∃ s5 s6 ps js', sl = [.ref 0, .dat (.int 10), .dat (.int (1 + m)), .dat (.int d2), .ref 1, s5, s6] ∧ io = [js', .none :: ps.map nD] ∧ ps.length = i ∧ Up ps ∧ JarOk (n + 2 + 2 * i) js')
      (by simp [hr]) ⟨_, _, [], _, rfl, rfl, rfl, fun i p e => by simp at e, j2⟩ ?_ (fun _ _ _ => rfl)
    · rw [hlen] at this; exact this
    rintro i d sl io hi ⟨s5, s6, ps, js', rfl, rfl, hpl, hup, hj⟩
    obtain ⟨hil, rfl⟩ := rngItems_get hi
    refine ⟨rfl, ?_⟩
    simp only [tgGo_one, bind_some']
    let St (k : Nat) : List S → IO → Prop := fun sl io => ∃ (up : Nat) (js' : List D), up ≤ i ∧ JarOk (n + 2 + 2 * i + k) js' ∧ sl = [.ref 0, .dat (.int 10), .dat (.int (1 + m)), .dat (.int d2), .ref 1, .dat (.int (1 + (i : Nat))), .dat (nD up)] ∧ io = [js', .none :: ps.map nD]
    refine Nx_seq (P0 := St 0) ?_ ?_
    · simp [-Int.zero_add]
      exact ⟨0, js', by omega, hj, by simp [nD], rfl⟩
    rintro sl io ⟨up, js3, hu, hj3, rfl, rfl⟩
    refine Nx_seq (P0 := St 1) ?_ ?_
    · by_cases hc : d2 = 0 ∨ d2 = 5
      · obtain ⟨d, js4, e, h3, h4, h5⟩ := pull_ex (sl := [.ref 0, .dat (.int 10), .dat (.int (1 + m)), .dat (.int d2), .ref 1, .dat (.int (1 + (i : Nat))), .dat (nD up)]) (X := dVar 5) (rest := [.none :: ps.map nD]) rfl rfl hj3 (by omega) (by omega) (by omega)
        have hc' : dIf (dOrT (dTst (dOp eqO (dVar 3) (dC (.int 0)))) (dTst (dOp eqO (dVar 3) (dC (.int 5))))) (dSet 6 (dFnJ run__law_pull (dCons (dVar 0) (dCons (dVar 5) (dNil))))) (dNext) [.ref 0, .dat (.int 10), .dat (.int (1 + m)), .dat (.int d2), .ref 1, .dat (.int (1 + (i : Nat))), .dat (nD up)] [js3, .none :: ps.map nD] = dSet 6 (dFnJ run__law_pull (dCons (dVar 0) (dCons (dVar 5) (dNil)))) [.ref 0, .dat (.int 10), .dat (.int (1 + m)), .dat (.int d2), .ref 1, .dat (.int (1 + (i : Nat))), .dat (nD up)] [js3, .none :: ps.map nD] := by
          rcases hc with rfl | rfl <;> simp [-dSet_ap]
        rw [hc', dSet_ap, e]
        simp [-Int.zero_add]
        exact ⟨d.toNat, js4, by omega, h5, by simp [nD]; omega, rfl⟩
      · have hc1 : d2 ≠ 0 := fun z => hc (.inl z)
        have hc2 : d2 ≠ 5 := fun z => hc (.inr z)
        simp [hc1, hc2]
        exact ⟨up, js3, hu, hj3.mono (by omega), rfl, rfl⟩
    rintro sl io ⟨up, js3, hu, hj3, rfl, rfl⟩
    refine Nx_seq (P0 := St 1) ?_ ?_
    · by_cases hc : d2 = 2
      · subst hc
        simp [-Int.zero_add]
        exact ⟨i, js3, by omega, hj3, by simp [nD]; omega, rfl⟩
      · simp [hc]
        exact ⟨up, js3, hu, hj3, rfl, rfl⟩
    rintro sl io ⟨up, js3, hu, hj3, rfl, rfl⟩
    refine Nx_seq (P0 := St 1) ?_ ?_
    · by_cases hc : d2 = 3
      · subst hc
        have e3 := fdiv_p (i := 1 + (m : Int)) (j := 2) (by decide) (by decide)
        simp [-fdivD_int, e3, -Int.zero_add]
        refine ⟨(if (1 + (m : Int)) / 2 < 1 + (i : Int) - 1 then (1 + (m : Int)) / 2 else 1 + (i : Int) - 1).toNat, js3, by split <;> omega, hj3, ?_, rfl⟩
        simp [nD]
        split <;> omega
      · simp [hc]
        exact ⟨up, js3, hu, hj3, rfl, rfl⟩
    rintro sl io ⟨up, js3, hu, hj3, rfl, rfl⟩
    refine Nx_seq (P0 := St 2) ?_ ?_
    · by_cases hc : d2 = 4
      · subst hc
        obtain ⟨d, js4, e, h3, h4, h5⟩ := pull_ex (sl := [.ref 0, .dat (.int 10), .dat (.int (1 + m)), .dat (.int 4), .ref 1, .dat (.int (1 + (i : Nat))), .dat (nD up)]) (X := dCall minD (dCons (dVar 5) (dCons (dC (.int 4)) (dNil)))) (rest := [.none :: ps.map nD]) (size := if (4 : Int) < 1 + (i : Nat) then 4 else 1 + (i : Nat)) rfl (by simp) hj3 (by omega) (by split <;> omega) (by split <;> omega)
        have hc' : dIf (dTst (dOp eqO (dVar 3) (dC (.int 4)))) (dSet 6 (dFnJ run__law_pull (dCons (dVar 0) (dCons (dCall minD (dCons (dVar 5) (dCons (dC (.int 4)) (dNil)))) (dNil))))) (dNext) [.ref 0, .dat (.int 10), .dat (.int (1 + m)), .dat (.int 4), .ref 1, .dat (.int (1 + (i : Nat))), .dat (nD up)] [js3, .none :: ps.map nD] = dSet 6 (dFnJ run__law_pull (dCons (dVar 0) (dCons (dCall minD (dCons (dVar 5) (dCons (dC (.int 4)) (dNil)))) (dNil)))) [.ref 0, .dat (.int 10), .dat (.int (1 + m)), .dat (.int 4), .ref 1, .dat (.int (1 + (i : Nat))), .dat (nD up)] [js3, .none :: ps.map nD] := by
          simp [-dSet_ap]
        rw [hc', dSet_ap, e]
        simp [-Int.zero_add]
        refine ⟨d.toNat, js4, ?_, h5, by simp [nD]; omega, rfl⟩
        split at h4 <;> omega
      · simp [hc]
        exact ⟨up, js3, hu, hj3.mono (by omega), rfl, rfl⟩
    rintro sl io ⟨up, js3, hu, hj3, rfl, rfl⟩
    have e3 : (.none :: ps.map nD : List D).length < LIM := by rw [List.length_cons, List.length_map]; unfold LIM; omega
    simp only [dApp_ap, appK_ap, dVar_ap, varK_dat, List.getElem?_cons_succ, List.getElem?_cons_zero, bind_some', appL_ap, im_nD, e3, true_and, if_true, Nx_nx]
    exact ⟨_, _, ps ++ [up], js3, rfl, by simp, by simp [hpl], hup.snoc (by omega), hj3.mono (by omega)⟩
  obtain ⟨sl', io', ek, s5, s6, ps, js', rfl, rfl, hpl, hup, hj⟩ := key
  refine ⟨ps, js', ?_, ⟨by omega, hup⟩, hj.mono (by omega)⟩
  unfold d__law_some_world
  refine Rt_seq (P0 := fun sl io => sl = [.ref 0, .dat (.int 10), .dat (.int (1 + m)), .un, .un, .un, .un] ∧ io = [js1]) ?_ ?_
  · rw [dSet_ap, dOp_ap, dC_ap, bind_some', opK_ap]
    have : slots 7 (.ref 0 :: ([.int 10] : List D).map .dat) = [.ref 0, .dat (.int 10), .un, .un, .un, .un, .un] := rfl
    rw [this, e1]
    simp
  rintro sl io ⟨rfl, rfl⟩
  refine Rt_seq (P0 := fun sl io => sl = [.ref 0, .dat (.int 10), .dat (.int (1 + m)), .dat (.int d2), .un, .un, .un] ∧ io = [js2]) ?_ ?_
  · rw [dSet_ap, e2]
    simp
  rintro sl io ⟨rfl, rfl⟩
  refine Rt_seq (P0 := fun sl io => sl = [.ref 0, .dat (.int 10), .dat (.int (1 + m)), .dat (.int d2), .ref 1, .un, .un] ∧ io = [js2, [.none]]) ?_ ?_
  · simp [show 1 ≤ LIM by decide]
  rintro sl io ⟨rfl, rfl⟩
  rw [seq_nx ek]
  simp [dT]
theorem at_last (l : List D) (x : D) : atI (l ++ [x]) (-1) = some x := by
  unfold atI ixN
  rw [if_neg (by omega), List.length_append, List.length_singleton, if_pos (by omega)]
  show (l ++ [x])[(-1 + ((l.length + 1 : Nat) : Int)).toNat]? = _
  rw [show (-1 + ((l.length + 1 : Nat) : Int)).toNat = l.length by omega]
  simp
theorem world0 (ps : List Nat) : atI (.none :: ps.map nD) (0 : Nat) = some .none := at_zero _ _
theorem worldS (ps : List Nat) (k : Nat) (h : k < ps.length) : atI (.none :: ps.map nD) ((k + 1 : Nat) : Int) = some (nD ps[k]) := by
  rw [show ((k + 1 : Nat) : Int) = 1 + (k : Int) by omega, at_cons, List.getElem?_map, List.getElem?_eq_getElem h]; rfl
def upT : DT := dAndT (dTst (dOp isntD (dOp idxD (dVar 0) (dOp idxD (dVar 2) (dNeg (dC (.int 1))))) (dC .none))) (dTst (dOp gtD (dOp idxD (dVar 0) (dOp idxD (dVar 2) (dNeg (dC (.int 1))))) (dC (.int 0))))
def upB : DS := dApp 2 (dOp idxD (dVar 0) (dOp idxD (dVar 2) (dNeg (dC (.int 1)))))
theorem upT_ev {ps : List Nat} {t : S} {l : List D} {w : Nat} {d : D} {b : Bool} (e1 : atI l (-1) = some (nD w)) (e3 : idxD (dT ps) (nD w) = some (.dat d)) (hd : (d = .none ∧ b = false) ∨ ∃ n : Nat, d = nD n ∧ b = decide (0 < n)) :
    upT [.dat (dT ps), t, .ref 0] [l] = some (b, [l]) := by
  unfold upT
  simp only [dAndT_ap, dTst_ap, dOp_ap, dVar_ap, List.getElem?_cons_zero, List.getElem?_cons_succ, varK_dat, varK_ref, bind_some', opK_ap, dNeg_ap, dC_ap, negK_ap, opL_ap, vw_ref, vw_dat, Option.map_some, idxD_lst, e1, e3]
  rcases hd with ⟨rfl, rfl⟩ | ⟨n, rfl, rfl⟩
  · simp only [bind_some', opL_ap, vw_dat, e3, Option.map_some, opK_ap, dC_ap, isntD_none, isNonD_none, tstK_ap, andK_ap]
    rfl
  · simp only [bind_some', opL_ap, vw_dat, e3, Option.map_some, opK_ap, dC_ap, isntD_none, isNonD_int, nD, tstK_ap, andK_ap, Bool.not_false, if_true, dTst_ap, dOp_ap, dVar_ap, List.getElem?_cons_zero, List.getElem?_cons_succ, varK_dat, varK_ref, dNeg_ap, negK_ap, vw_ref, idxD_lst, e1]
    have e3' : idxD (dT ps) (.int (w : Int)) = some (.dat (.int (n : Int))) := e3
    simp only [bind_some', opL_ap, vw_dat, e3', Option.map_some, opK_ap, dC_ap, gtD_int, tstK_ap]
    congr 2
    exact decide_eq_decide.mpr (by omega)
theorem upB_ev {ps : List Nat} {t : S} {l : List D} {w n : Nat} (e1 : atI l (-1) = some (nD w)) (e3 : idxD (dT ps) (nD w) = some (.dat (nD n))) (hl : l.length < LIM) :
    upB [.dat (dT ps), t, .ref 0] [l] = some (.nx [.dat (dT ps), t, .ref 0] [l ++ [nD n]]) := by
  unfold upB
  simp only [dApp_ap, dOp_ap, dVar_ap, List.getElem?_cons_zero, List.getElem?_cons_succ, varK_dat, varK_ref, bind_some', opK_ap, dNeg_ap, dC_ap, negK_ap, opL_ap, vw_ref, vw_dat, Option.map_some, idxD_lst, e1, appK_ap, e3, appL_ap, im_nD, hl, true_and, if_true, List.set_cons_zero]
theorem up_loop (ps : List Nat) (hp : TreeOk ps) (top : Nat) : ∀ (fuel w : Nat) (us : List Nat), w < fuel → w ≤ ps.length → w ≤ top → (∀ u ∈ us, u ≤ top) → us.length + w ≤ 100 →
    ∃ us', whGo upT upB fuel [.dat (dT ps), .dat (nD top), .ref 0] [(us ++ [w]).map nD] = some (.nx [.dat (dT ps), .dat (nD top), .ref 0] [us'.map nD]) ∧ us' ≠ [] ∧ us'.length ≤ 101 ∧ ∀ u ∈ us', u ≤ top
  | 0, w, us, h, _, _, _, _ => absurd h (Nat.not_lt_zero _)
  | fuel + 1, w, us, h, hw, ht, hu, hl => by
    have e1 : atI ((us ++ [w]).map nD) (-1) = some (nD w) := by rw [List.map_append]; exact at_last _ _
    have stop : upT [.dat (dT ps), .dat (nD top), .ref 0] [(us ++ [w]).map nD] = some (false, [(us ++ [w]).map nD]) → ∃ us', whGo upT upB (fuel + 1) [.dat (dT ps), .dat (nD top), .ref 0] [(us ++ [w]).map nD] = some (.nx [.dat (dT ps), .dat (nD top), .ref 0] [us'.map nD]) ∧ us' ≠ [] ∧ us'.length ≤ 101 ∧ ∀ u ∈ us', u ≤ top := fun e => by
      refine ⟨us ++ [w], ?_, by simp, by rw [List.length_append, List.length_singleton]; omega, fun u hm => ?_⟩
      · unfold whGo
        rw [e]
        simp
      · rcases List.mem_append.mp hm with h | h
        · exact hu u h
        · rw [List.mem_singleton] at h; omega
    cases w with
    | zero => exact stop (upT_ev e1 (by show (atI _ _).map _ = _; rw [world0]; rfl) (.inl ⟨rfl, rfl⟩))
    | succ k =>
      have hk : k < ps.length := by omega
      have e2 := worldS ps k hk
      have hle := hp.2 k _ (List.getElem?_eq_getElem hk)
      have e3 : idxD (dT ps) (nD (k + 1)) = some (.dat (nD ps[k])) := by show (atI _ _).map _ = _; rw [e2]; rfl
      by_cases h0 : ps[k] = 0
      · exact stop (upT_ev e1 e3 (.inr ⟨ps[k], rfl, by rw [h0]; rfl⟩))
      · have et := upT_ev (t := .dat (nD top)) (b := true) e1 e3 (.inr ⟨ps[k], rfl, (decide_eq_true (by omega)).symm⟩)
        have eb := upB_ev (t := .dat (nD top)) e1 e3 (by rw [List.length_map, List.length_append, List.length_singleton]; unfold LIM; omega)
        obtain ⟨us', e, r⟩ := up_loop ps hp top fuel ps[k] (us ++ [k + 1]) (by omega) (by omega) (by omega) (fun u hm => by
          rcases List.mem_append.mp hm with h | h
          · exact hu u h
          · rw [List.mem_singleton] at h; omega) (by rw [List.length_append, List.length_singleton]; omega)
        refine ⟨us', ?_, r⟩
        unfold whGo
        rw [et]
        simp only [bind_some', if_true, eb]
        rw [List.map_append (l₁ := us ++ [k + 1])] at e
        exact e
theorem r_up (ps : List Nat) (hp : TreeOk ps) (w : Nat) (h : w ≤ ps.length) : ∃ us : List Nat, run__law_up [dT ps, nD w] = some (.tmp (us.map nD)) ∧ us ≠ [] ∧ us.length ≤ 101 ∧ ∀ u ∈ us, u ≤ w := by
  obtain ⟨us, e, h1, h2, h3⟩ := up_loop ps hp w FUEL w [] (by have := hp.1; unfold FUEL; omega) h (Nat.le_refl _) (fun u hu => by cases hu) (by have := hp.1; simp; omega)
  refine ⟨us, runD_rf (k := 0) rfl ?_, h1, h2, h3⟩
  unfold d__law_up
  refine Rt_seq (P0 := fun sl io => sl = [.dat (dT ps), .dat (nD w), .ref 0] ∧ io = [[nD w]]) ?_ ?_
  · simp [slots, show 1 ≤ LIM by decide, im_nD]
  rintro sl io ⟨rfl, rfl⟩
  have e' : whGo (dAndT (dTst (dOp isntD (dOp idxD (dVar 0) (dOp idxD (dVar 2) (dNeg (dC (.int 1))))) (dC .none))) (dTst (dOp gtD (dOp idxD (dVar 0) (dOp idxD (dVar 2) (dNeg (dC (.int 1))))) (dC (.int 0))))) (dApp 2 (dOp idxD (dVar 0) (dOp idxD (dVar 2) (dNeg (dC (.int 1)))))) FUEL [.dat (dT ps), .dat (nD w), .ref 0] [[nD w]] = some (.nx [.dat (dT ps), .dat (nD w), .ref 0] [us.map nD]) := e
  rw [seq_nx e']
  simp
theorem shaped_nD (l : List Nat) : SeqAt.shaped (.tuple (l.map nD)) = true := by
  have hL : ∀ l : List Nat, PyData.canLayAll0 (l.map nD) = true ∧ PyData.depthAll (l.map nD) = 0 := by
    intro l
    induction l with
    | nil => exact ⟨rfl, by simp only [List.map_nil, PyData.depthAll]⟩
    | cons a l ih => exact ⟨by rw [List.map_cons, PyData.canLayAll0, ih.1]; rfl, by rw [List.map_cons, PyData.depthAll, ih.2]; simp only [nD, PyData.depth]; rfl⟩
  unfold SeqAt.shaped
  rw [PyData.canLay0, (hL _).1, PyData.depth, (hL _).2]; rfl
theorem eq_W0 (ws : List Nat) : eqD (dW ws) (.tuple []) = some (decide (ws = [])) := by
  unfold eqD dW
  have h2 := shaped_nD []
  rw [List.map_nil] at h2
  simp only [eqS, shaped_nD, h2, Bool.and_self, if_true]
  cases ws with
  | nil => simp [PyData.eqv, PyData.eqvAll]
  | cons a l => simp [PyData.eqv, PyData.eqvAll]
def asksB : DS := dSeq (dSet 6 (dFnJ run__law_pull (dCons (dVar 0) (dCons (dC (.int 8)) (dNil))))) (dSeq (dSet 7 (dC (.int 0))) (dSeq (dIf (dTst (dOp gtD (dVar 6) (dC (.int 0)))) (dSet 7 (dFnJ run__law_pull (dCons (dVar 0) (dCons (dCall lenD (dCons (dVar 1) (dNil))) (dNil))))) (dNext)) (dSeq (dIf (dAndT (dTst (dOp gtD (dVar 6) (dC (.int 5)))) (dTst (dOp neO (dVar 4) (dTup (dNil))))) (dSeq (dSet 8 (dFn run__law_up (dCons (dVar 1) (dCons (dOp idxD (dVar 4) (dFnJ run__law_pull (dCons (dVar 0) (dCons (dCall lenD (dCons (dVar 4) (dNil))) (dNil))))) (dNil))))) (dSet 7 (dOp idxD (dVar 8) (dFnJ run__law_pull (dCons (dVar 0) (dCons (dCall lenD (dCons (dVar 8) (dNil))) (dNil))))))) (dNext)) (dSet 4 (dOp addD (dVar 4) (dTup (dCons (dVar 7) (dNil))))))))
theorem r_some_asksR {n : Nat} {js : List D} (h : JarOk n js) (hn : n ≤ 1000) (ps : List Nat) (hp : TreeOk ps) (R : Int) (hR0 : 0 ≤ R) (hR1 : R ≤ 40) : ∃ ws js', run__law_some_asks js [dT ps, .int R] = some (.dat (dW ws), js') ∧ WOk ps ws ∧ ws.length ≤ 40 ∧ JarOk (n + 170) js' := by
  have hp9 := hp.1
  suffices hs : ∃ ws js', Rt (d__law_some_asks (slots 9 (.ref 0 :: ([dT ps, .int R] : List D).map .dat)) [js]) (.dat (dW ws)) (fun io => io[0]? = some js') ∧ WOk ps ws ∧ ws.length ≤ 40 ∧ JarOk (n + 170) js' by
    obtain ⟨ps, js', h1, h2, h3⟩ := hs
    exact ⟨ps, js', runJ_rt rfl h1 (by show imAll _ = true; simp), h2, h3⟩
  obtain ⟨d1, js1, e1, h1, h1', j1⟩ := pull_ex (sl := [.ref 0, .dat (dT ps), .dat (.int R), .un, .un, .un, .un, .un, .un]) (X := dC (.int 8)) (rest := []) rfl rfl h (by omega) (by decide) (by decide)
  obtain ⟨v, hv, hv0⟩ : ∃ v : Int, atI ([.int 0, .int 1, .int 2, .int 3, .int 4, .int 6, .int (R / 2), .int R] : List D) d1 = some (.int v) ∧ 0 ≤ v := by
    have : d1 = 0 ∨ d1 = 1 ∨ d1 = 2 ∨ d1 = 3 ∨ d1 = 4 ∨ d1 = 5 ∨ d1 = 6 ∨ d1 = 7 := by omega
    rcases this with rfl | rfl | rfl | rfl | rfl | rfl | rfl | rfl <;> exact ⟨_, rfl, by omega⟩
  obtain ⟨m, hm⟩ : ∃ m : Nat, (if v < R then v else R) = (m : Int) := ⟨(if v < R then v else R).toNat, by split <;> omega⟩
  have hv1 : (m : Int) ≤ 40 := by rw [← hm]; split <;> omega
  have hr := fun io => rng1K_ap (io := io) (j := (m : Int)) (n := m) rfl (by omega)
  have hlen : (rngItems 0 m).length = m := by unfold rngItems; simp
  have key : Nx (dFor (dItR1 (dCons (dVar 3) dNil)) (.one 5) asksB [.ref 0, .dat (dT ps), .dat (.int R), .dat (.int m), .dat (.tuple []), .un, .un, .un, .un] [js1])
      (fun sl io => ∃ s5 s6 s7 s8 ws js', sl = [.ref 0, .dat (dT ps), .dat (.int R), .dat (.int m), .dat (dW ws), s5, s6, s7, s8] ∧ io = [js'] ∧ ws.length = m ∧ (∀ w ∈ ws, w < ps.length + 1) ∧ JarOk (n + 1 + 4 * m) js') := by
    have := Nx_for (items := rngItems 0 m) (c := none) (io1 := [js1]) (it := dItR1 (dCons (dVar 3) dNil)) (tg := .one 5) (sl := [.ref 0, .dat (dT ps), .dat (.int R), .dat (.int m), .dat (.tuple []), .un, .un, .un, .un]) (io := [js1])
      (body := asksB)
      (fun i sl io => ∃ s5 s6 s7 s8 ws js', sl = [.ref 0, .dat (dT ps), .dat (.int R), .dat (.int m), .dat (dW ws), s5, s6, s7, s8] ∧ io = [js'] ∧ ws.length = i ∧ (∀ w ∈ ws, w < ps.length + 1) ∧ JarOk (n + 1 + 4 * i) js')
      (by simp [hr]) ⟨_, _, _, _, [], _, rfl, rfl, rfl, fun w e => by simp at e, j1⟩ ?_ (fun _ _ _ => rfl)
    · rw [hlen] at this; exact this
    rintro i d sl io hi ⟨s5, s6, s7, s8, ws, js2, rfl, rfl, hwl, hw, hj⟩
    obtain ⟨hil, rfl⟩ := rngItems_get hi
    refine ⟨rfl, ?_⟩
    simp only [tgGo_one, bind_some']
    unfold asksB
    refine Nx_seq (P0 := fun sl io => ∃ (t : Int) (js' : List D), 0 ≤ t ∧ JarOk (n + 1 + 4 * i + 1) js' ∧ sl = [.ref 0, .dat (dT ps), .dat (.int R), .dat (.int m), .dat (dW ws), .dat (.int (0 + (i : Nat))), .dat (.int t), s7, s8] ∧ io = [js']) ?_ ?_
    · obtain ⟨d, js4, e, h3, h4, h5⟩ := pull_ex (sl := [.ref 0, .dat (dT ps), .dat (.int R), .dat (.int m), .dat (dW ws), .dat (.int (0 + (i : Nat))), s6, s7, s8]) (X := dC (.int 8)) (rest := []) rfl rfl hj (by omega) (by decide) (by decide)
      have : ([.ref 0, .dat (dT ps), .dat (.int R), .dat (.int m), .dat (dW ws), s5, s6, s7, s8] : List S).set 5 (.dat (.int (0 + (i : Nat)))) = [.ref 0, .dat (dT ps), .dat (.int R), .dat (.int m), .dat (dW ws), .dat (.int (0 + (i : Nat))), s6, s7, s8] := rfl
      rw [this, dSet_ap, e]
      exact ⟨_, _, rfl, d, js4, h3, h5, rfl, rfl⟩
    rintro sl io ⟨t, js3, ht0, hj3, rfl, rfl⟩
    let St (k : Nat) : List S → IO → Prop := fun sl io => ∃ (sp : Nat) (s8 : S) (js' : List D), sp < ps.length + 1 ∧ JarOk (n + 1 + 4 * i + k) js' ∧ sl = [.ref 0, .dat (dT ps), .dat (.int R), .dat (.int m), .dat (dW ws), .dat (.int (0 + (i : Nat))), .dat (.int t), .dat (nD sp), s8] ∧ io = [js']
    refine Nx_seq (P0 := St 1) ?_ ?_
    · simp [-Int.zero_add]
      exact ⟨0, s8, js3, by omega, hj3, by simp [nD], rfl⟩
    rintro sl io ⟨sp, s8, js4, hsp, hj4, rfl, rfl⟩
    refine Nx_seq (P0 := St 2) ?_ ?_
    · by_cases hc : 0 < t
      · obtain ⟨d, js5, e, h3, h4, h5⟩ := pull_ex (sl := [.ref 0, .dat (dT ps), .dat (.int R), .dat (.int m), .dat (dW ws), .dat (.int (0 + (i : Nat))), .dat (.int t), .dat (nD sp), s8]) (X := dCall lenD (dCons (dVar 1) (dNil))) (rest := []) (size := (ps.length : Int) + 1) rfl (by simp [-lenD_tup, lenT]) hj4 (by omega) (by omega) (by omega)
        rw [dIf_ap]
        have ec : (dTst (dOp gtD (dVar 6) (dC (.int 0)))) [.ref 0, .dat (dT ps), .dat (.int R), .dat (.int m), .dat (dW ws), .dat (.int (0 + (i : Nat))), .dat (.int t), .dat (nD sp), s8] [js4] = some (true, [js4]) := by simp [hc]
        rw [ec]
        simp only [bind_some', ifK_ap, if_true]
        rw [dSet_ap, e]
        simp [-Int.zero_add]
        exact ⟨d.toNat, s8, js5, by omega, h5, by simp [nD]; omega, rfl⟩
      · simp [hc, -Int.zero_add]
        exact ⟨sp, s8, js4, hsp, hj4.mono (by omega), rfl, rfl⟩
    rintro sl io ⟨sp, s8, js4, hsp, hj4, rfl, rfl⟩
    refine Nx_seq (P0 := St 4) ?_ ?_
    · have ew := eq_W0 ws
      by_cases hc : 5 < t ∧ ws ≠ []
      · rw [dIf_ap]
        have ec : (dAndT (dTst (dOp gtD (dVar 6) (dC (.int 5)))) (dTst (dOp neO (dVar 4) (dTup (dNil))))) [.ref 0, .dat (dT ps), .dat (.int R), .dat (.int m), .dat (dW ws), .dat (.int (0 + (i : Nat))), .dat (.int t), .dat (nD sp), s8] [js4] = some (true, [js4]) := by simp [hc.1, hc.2, ew]
        rw [ec]
        simp only [bind_some', ifK_ap, if_true]
        have wl : ws.length ≠ 0 := fun z => hc.2 (List.length_eq_zero_iff.mp z)
        obtain ⟨d, js5, e, h3, h4, h5⟩ := pull_ex (sl := [.ref 0, .dat (dT ps), .dat (.int R), .dat (.int m), .dat (dW ws), .dat (.int (0 + (i : Nat))), .dat (.int t), .dat (nD sp), s8]) (X := dCall lenD (dCons (dVar 4) (dNil))) (rest := []) (size := (ws.length : Int)) rfl (by simp [dW]) hj4 (by omega) (by omega) (by omega)
        obtain ⟨k, rfl⟩ : ∃ k : Nat, d = (k : Int) := ⟨d.toNat, by omega⟩
        have hk : k < ws.length := by omega
        have ek : atI (ws.map nD) (k : Int) = some (nD ws[k]) := atI_nat (by rw [List.getElem?_map, List.getElem?_eq_getElem hk]; rfl)
        have hwk := hw ws[k] (List.getElem_mem hk)
        obtain ⟨us, eu, hu1, hu2, hu3⟩ := r_up ps hp ws[k] (by omega)
        refine Nx_seq (P0 := fun sl io => sl = [.ref 0, .dat (dT ps), .dat (.int R), .dat (.int m), .dat (dW ws), .dat (.int (0 + (i : Nat))), .dat (.int t), .dat (nD sp), .dat (.list (us.map nD))] ∧ io = [js5]) ?_ ?_
        · have e1 : dOp idxD (dVar 4) (dFnJ run__law_pull (dCons (dVar 0) (dCons (dCall lenD (dCons (dVar 4) (dNil))) (dNil)))) [.ref 0, .dat (dT ps), .dat (.int R), .dat (.int m), .dat (dW ws), .dat (.int (0 + (i : Nat))), .dat (.int t), .dat (nD sp), s8] [js4] = some (.dat (nD ws[k]), [js5]) := by
            rw [dOp_ap, dVar_ap]
            simp only [List.getElem?_cons_succ, List.getElem?_cons_zero, varK_dat, bind_some', opK_ap]
            rw [e]
            simp [dW, ek]
          rw [dSet_ap, dFn_ap, dCons_ap, dVar_ap]
          simp only [List.getElem?_cons_succ, List.getElem?_cons_zero, varK_dat, bind_some', consK_ap]
          rw [dCons_ap, e1]
          simp [eu]
        rintro sl io ⟨rfl, rfl⟩
        have ul : us.length ≠ 0 := fun z => hu1 (List.length_eq_zero_iff.mp z)
        obtain ⟨d', js6, e', h3', h4', h5'⟩ := pull_ex (sl := [.ref 0, .dat (dT ps), .dat (.int R), .dat (.int m), .dat (dW ws), .dat (.int (0 + (i : Nat))), .dat (.int t), .dat (nD sp), .dat (.list (us.map nD))]) (X := dCall lenD (dCons (dVar 8) (dNil))) (rest := []) (size := (us.length : Int)) rfl (by simp) h5 (by omega) (by omega) (by omega)
        obtain ⟨k', rfl⟩ : ∃ k : Nat, d' = (k : Int) := ⟨d'.toNat, by omega⟩
        have hk' : k' < us.length := by omega
        have ek' : atI (us.map nD) (k' : Int) = some (nD us[k']) := atI_nat (by rw [List.getElem?_map, List.getElem?_eq_getElem hk']; rfl)
        rw [dSet_ap, dOp_ap, dVar_ap]
        simp only [List.getElem?_cons_succ, List.getElem?_cons_zero, varK_dat, bind_some', opK_ap]
        rw [e']
        simp [ek', -Int.zero_add]
        exact ⟨us[k'], _, js6, by have := hu3 us[k'] (List.getElem_mem hk'); omega, h5', rfl, rfl⟩
      · rw [dIf_ap]
        have ec : (dAndT (dTst (dOp gtD (dVar 6) (dC (.int 5)))) (dTst (dOp neO (dVar 4) (dTup (dNil))))) [.ref 0, .dat (dT ps), .dat (.int R), .dat (.int m), .dat (dW ws), .dat (.int (0 + (i : Nat))), .dat (.int t), .dat (nD sp), s8] [js4] = some (false, [js4]) := by
          by_cases h5 : 5 < t
          · have : ws = [] := by
              by_cases z : ws = []
              · exact z
              · exact absurd ⟨h5, z⟩ hc
            simp [h5, this, ew]
            have := ew
            simp_all
          · simp [h5]
        rw [ec]
        exact ⟨_, _, rfl, sp, s8, js4, hsp, hj4.mono (by omega), rfl, rfl⟩
    rintro sl io ⟨sp, s8, js5, hsp, hj5, rfl, rfl⟩
    have ea : addD (dW ws) (.tuple [nD sp]) = some (.dat (dW (ws ++ [sp]))) := by
      show addD (.tuple _) _ = _
      rw [addD_tup, if_pos (by rw [List.length_map, List.length_singleton]; unfold LIM; omega), dW, List.map_append]; rfl
    have ev : dSet 4 (dOp addD (dVar 4) (dTup (dCons (dVar 7) (dNil)))) [.ref 0, .dat (dT ps), .dat (.int R), .dat (.int m), .dat (dW ws), .dat (.int (0 + (i : Nat))), .dat (.int t), .dat (nD sp), s8] [js5] = some (.nx [.ref 0, .dat (dT ps), .dat (.int R), .dat (.int m), .dat (dW (ws ++ [sp])), .dat (.int (0 + (i : Nat))), .dat (.int t), .dat (nD sp), s8] [js5]) := by
      simp [show 1 ≤ LIM by decide, ea, -Int.zero_add]
    exact ⟨_, _, ev, _, _, _, _, ws ++ [sp], js5, rfl, rfl, by simp [hwl], fun w hm => by
      rcases List.mem_append.mp hm with hm | hm
      · exact hw w hm
      · rw [List.mem_singleton] at hm; omega, hj5.mono (by omega)⟩
  obtain ⟨sl', io', ek, s5, s6, s7, s8, ws, js', rfl, rfl, hwl, hw, hj⟩ := key
  refine ⟨ws, js', ?_, ⟨hw, by omega⟩, by omega, hj.mono (by omega)⟩
  unfold d__law_some_asks
  refine Rt_seq (P0 := fun sl io => sl = [.ref 0, .dat (dT ps), .dat (.int R), .dat (.int m), .un, .un, .un, .un, .un] ∧ io = [js1]) ?_ ?_
  · have hd8 : 8 ≤ LIM := by decide
    have : slots 9 (.ref 0 :: ([dT ps, .int R] : List D).map .dat) = [.ref 0, .dat (dT ps), .dat (.int R), .un, .un, .un, .un, .un, .un] := rfl
    rw [this]
    have eL : dLst (dCons (dC (.int 0)) (dCons (dC (.int 1)) (dCons (dC (.int 2)) (dCons (dC (.int 3)) (dCons (dC (.int 4)) (dCons (dC (.int 6)) (dCons (dOp fdivD (dVar 2) (dC (.int 2))) (dCons (dVar 2) (dNil))))))))) [.ref 0, .dat (dT ps), .dat (.int R), .un, .un, .un, .un, .un, .un] [js] = some (.tmp [.int 0, .int 1, .int 2, .int 3, .int 4, .int 6, .int (R / 2), .int R], [js]) := by
      have e3 := fdiv_p (i := R) (j := 2) (by decide) (by decide)
      simp [-fdivD_int, e3, hd8]
    have eM : dOp idxD (dLst (dCons (dC (.int 0)) (dCons (dC (.int 1)) (dCons (dC (.int 2)) (dCons (dC (.int 3)) (dCons (dC (.int 4)) (dCons (dC (.int 6)) (dCons (dOp fdivD (dVar 2) (dC (.int 2))) (dCons (dVar 2) (dNil)))))))))) (dFnJ run__law_pull (dCons (dVar 0) (dCons (dC (.int 8)) (dNil)))) [.ref 0, .dat (dT ps), .dat (.int R), .un, .un, .un, .un, .un, .un] [js] = some (.dat (.int v), [js1]) := by
      rw [dOp_ap, eL, bind_some', opK_ap, e1]
      simp [hv]
    rw [dSet_ap, dCall_ap, dCons_ap, dVar_ap]
    simp only [List.getElem?_cons_succ, List.getElem?_cons_zero, varK_dat, bind_some', consK_ap]
    rw [dCons_ap, eM]
    simp [hm]
  rintro sl io ⟨rfl, rfl⟩
  refine Rt_seq (P0 := fun sl io => sl = [.ref 0, .dat (dT ps), .dat (.int R), .dat (.int m), .dat (.tuple []), .un, .un, .un, .un] ∧ io = [js1]) ?_ ?_
  · simp
  rintro sl io ⟨rfl, rfl⟩
  refine Rt_seq (P0 := fun sl io => sl = [.ref 0, .dat (dT ps), .dat (.int R), .dat (.int m), .dat (dW ws), s5, s6, s7, s8] ∧ io = [js']) ⟨_, _, ek, rfl, rfl⟩ ?_
  rintro sl io ⟨rfl, rfl⟩
  simp
end K74
set_option Elab.async false
set_option linter.all false
set_option maxRecDepth 100000
set_option maxHeartbeats 1000000
namespace K74
open PySem L2 DD TL StrLaws
def pD (p : Nat × Nat) : D := .tuple [nD p.1, nD p.2]
def dP (ps : List (Nat × Nat)) : D := .tuple (ps.map pD)
/-- ascending -/
def Asc (ws : List Nat) : Prop := ∀ (i a b : Nat), ws[i]? = some a → ws[i + 1]? = some b → a < b
inductive Gate where
  | g1 (w : Str) (ws : List Nat)
  | g2 (qs : List (Nat × Nat))
def gD : Gate → D
  | .g1 w ws => .tuple [.str w, dW ws]
  | .g2 qs => .tuple [.str "swap", dP qs]
def GOk (ps : List Nat) : Gate → Prop
  | .g1 w ws => WOk ps ws ∧ ws.length ≤ 40 ∧ (((w = "only" ∨ w = "lift") ∧ Asc ws) ∨ (w = "head" ∨ w = "pad"))
  | .g2 qs => (∀ q ∈ qs, q.1 < ps.length + 1 ∧ q.2 < ps.length + 1) ∧ qs.length ≤ 10 ∧ Asc (qs.map (·.1))
theorem im_pD (p : Nat × Nat) : im (pD p) = true := rfl
@[simp] theorem imAll_pDs (l : List (Nat × Nat)) : imAll (l.map pD) = true := imAll_map im_pD l
theorem im_gD (g : Gate) : im (gD g) = true := by
  cases g with
  | g1 w ws => show imAll _ = true; simp only [imAll_cons, im_str, imAll_nil, Bool.and_true, Bool.true_and]; show imAll _ = true; simp
  | g2 qs => show imAll _ = true; simp only [imAll_cons, im_str, imAll_nil, Bool.and_true, Bool.true_and]; show imAll _ = true; simp
theorem r_is_spot (ps : List Nat) (w : Nat) (h : w < ps.length + 1) : run_is_spot [dT ps, nD w] = some (.dat (.bool true)) := by
  refine runD_rt rfl ?_ rfl
  unfold d_is_spot
  have h1 : (0 : Int) ≤ (w : Int) := by omega
  have h2 : (w : Int) < (ps.length : Int) + 1 := by omega
  simp [slots, nD, -lenD_tup, lenT, h1, h2]
theorem r_is_spots (ps ws : List Nat) (hw : ∀ w ∈ ws, w < ps.length + 1) (ha : Asc ws) : run_is_spots [dT ps, dW ws] = some (.dat (.bool true)) := by
  refine runD_rt rfl ?_ rfl
  unfold d_is_spots
  refine Rt_seq (P0 := fun sl io => sl = [.dat (dT ps), .dat (dW ws), .un, .un] ∧ io = []) ?_ ?_
  · simp [slots, dW]
  rintro sl io ⟨rfl, rfl⟩
  refine Rt_seq (Nx_for (items := enumItems (ws.map nD)) (c := none) (io1 := []) (fun _ sl io => ∃ s1 s2, sl = [.dat (dT ps), .dat (dW ws), s1, s2] ∧ io = []) ?_ ⟨_, _, rfl, rfl⟩ ?_ fun _ _ _ => rfl) ?_
  · simp [dItE, dW]
  · rintro i d sl io hi ⟨s1, s2, rfl, rfl⟩
    obtain ⟨x, hx, rfl⟩ := enumItems_get hi
    rw [List.getElem?_map, Option.map_eq_some_iff] at hx
    obtain ⟨w, hww, rfl⟩ := hx
    refine ⟨rfl, ?_⟩
    have e : tgGo (.many [2, 3]) (.tuple [.int (i : Nat), nD w]) [.dat (dT ps), .dat (dW ws), s1, s2] = some [.dat (dT ps), .dat (dW ws), .dat (.int (i : Nat)), .dat (nD w)] := rfl
    rw [e, bind_some']
    refine Nx_seq (P0 := fun sl io => sl = [.dat (dT ps), .dat (dW ws), .dat (.int (i : Nat)), .dat (nD w)] ∧ io = []) ?_ ?_
    · simp [r_is_spot ps w (hw w (List.mem_of_getElem? hww))]
    rintro sl io ⟨rfl, rfl⟩
    by_cases h0 : i = 0
    · subst h0
      simp
    · obtain ⟨j, rfl⟩ : ∃ j, i = j + 1 := ⟨i - 1, by omega⟩
      have hj := (List.getElem?_eq_some_iff.mp hww).1
      have hv : ws[j]? = some (ws[j]'(by omega)) := List.getElem?_eq_getElem (by omega)
      have hlt := ha j _ _ hv hww
      have e1 : idxD (dW ws) (.int (((j + 1 : Nat) : Int) - 1)) = some (.dat (nD (ws[j]'(by omega)))) := by
        rw [show ((j + 1 : Nat) : Int) - 1 = (j : Int) by omega]
        show (atI _ _).map _ = _
        rw [atI_nat (j := j) (by rw [List.getElem?_map, hv]; rfl)]; rfl
      have hgt : (0 : Int) < ((j + 1 : Nat) : Int) := by omega
      have hle : ¬ ((w : Int) ≤ ((ws[j]'(by omega) : Nat) : Int)) := by omega
      have e2 : leD (nD w) (nD (ws[j]'(by omega))) = some (.dat (.bool false)) := by
        show leD (.int _) (.int _) = _
        rw [leD_int, decide_eq_false hle]
      generalize ((j + 1 : Nat) : Int) = z at *
      simp [hgt, e1, e2]
  · rintro sl io -
    simp
theorem r_is_swaps (ps : List Nat) (qs : List (Nat × Nat)) (hq : ∀ q ∈ qs, q.1 < ps.length + 1 ∧ q.2 < ps.length + 1) (hl : qs.length ≤ 10) (ha : Asc (qs.map (·.1))) : run_is_swaps [dT ps, dP qs] = some (.dat (.bool true)) := by
  refine runD_rt rfl ?_ rfl
  unfold d_is_swaps
  refine Rt_seq (P0 := fun sl io => sl = [.dat (dT ps), .dat (dP qs), .un, .un] ∧ io = []) ?_ ?_
  · simp [slots, dP]
  rintro sl io ⟨rfl, rfl⟩
  refine Rt_seq (P0 := fun sl io => sl = [.dat (dT ps), .dat (dP qs), .ref 0, .un] ∧ io = [[]]) ?_ ?_
  · simp
  rintro sl io ⟨rfl, rfl⟩
  refine Rt_seq (Nx_for (items := qs.map pD) (c := none) (io1 := [[]]) (fun i sl io => ∃ s1, sl = [.dat (dT ps), .dat (dP qs), .ref 0, s1] ∧ io = [((qs.map (·.1)).take i).map nD]) ?_ ⟨_, rfl, rfl⟩ ?_ fun _ _ _ => rfl) ?_
  · simp [dP]
  · rintro i d sl io hi ⟨s1, rfl, rfl⟩
    rw [List.getElem?_map, Option.map_eq_some_iff] at hi
    obtain ⟨q, hqi, rfl⟩ := hi
    have hil := (List.getElem?_eq_some_iff.mp hqi).1
    have hqq := hq q (List.mem_of_getElem? hqi)
    refine ⟨rfl, ?_⟩
    simp only [tgGo_one, bind_some', List.set_cons_succ, List.set_cons_zero]
    refine Nx_seq (P0 := fun sl io => sl = [.dat (dT ps), .dat (dP qs), .ref 0, .dat (pD q)] ∧ io = [((qs.map (·.1)).take i).map nD]) ?_ ?_
    · simp [pD]
    rintro sl io ⟨rfl, rfl⟩
    have i0 : idxD (pD q) (.int 0) = some (.dat (nD q.1)) := rfl
    have i1 : idxD (pD q) (.int 1) = some (.dat (nD q.2)) := rfl
    refine Nx_seq (P0 := fun sl io => sl = [.dat (dT ps), .dat (dP qs), .ref 0, .dat (pD q)] ∧ io = [((qs.map (·.1)).take i).map nD]) ?_ ?_
    · simp [i0, i1, r_is_spot ps q.1 hqq.1, r_is_spot ps q.2 hqq.2]
    rintro sl io ⟨rfl, rfl⟩
    have e3 : (((qs.map (·.1)).take i).map nD).length < LIM := by rw [List.length_map, List.length_take, List.length_map]; unfold LIM; omega
    have hm : (qs.map (·.1))[i]? = some q.1 := by rw [List.getElem?_map, hqi]; rfl
    simp only [dApp_ap, dOp_ap, dC_ap, opK_ap, opL_ap, vw_dat, i0, Option.map_some, appK_ap, dVar_ap, varK_dat, List.getElem?_cons_succ, List.getElem?_cons_zero, bind_some', appL_ap, im_nD, e3, true_and, if_true, Nx_nx, take_snoc hm, List.map_append, List.map_cons, List.map_nil]
    exact ⟨_, rfl, rfl⟩
  · rintro sl io ⟨s1, rfl, rfl⟩
    rw [List.length_map, List.take_of_length_le (by rw [List.length_map]; omega)]
    have e := r_is_spots ps (qs.map (·.1)) (fun w hw => by obtain ⟨q, hq', rfl⟩ := List.mem_map.mp hw; exact (hq q hq').1) ha
    have e' : run_is_spots [dT ps, .tuple ((qs.map (·.1)).map nD)] = some (.dat (.bool true)) := e
    simp [e', -List.map_map]
theorem r_is_wishes (ps ws : List Nat) (ht : TreeOk ps) (h : WOk ps ws) : run_is_wishes [dT ps, dW ws] = some (.dat (.bool true)) := by
  refine runD_rt rfl ?_ rfl
  unfold d_is_wishes
  simp [slots, r_need_tree ps ht, r_wishes_there ps ws h]
theorem r_door_fits (ps : List Nat) (ht : TreeOk ps) (g : Gate) (hg : GOk ps g) : run_door_fits [dT ps, gD g] = some (.dat (.bool true)) := by
  refine runD_rt rfl ?_ rfl
  unfold d_door_fits
  refine Rt_seq (P0 := fun sl io => sl = [.dat (dT ps), .dat (gD g), .un, .un] ∧ io = []) ?_ ?_
  · cases g <;> simp [slots, gD, at_zero]
  rintro sl io ⟨rfl, rfl⟩
  cases g with
  | g1 w ws =>
    obtain ⟨h1, h2, h3⟩ := hg
    refine Rt_seq (P0 := fun sl io => sl = [.dat (dT ps), .dat (gD (.g1 w ws)), .dat (.str w), .dat (dW ws)] ∧ io = []) ?_ ?_
    · simp [gD, tgGo, setAll]
    rintro sl io ⟨rfl, rfl⟩
    rcases h3 with ⟨h3, ha⟩ | h3
    · refine Rt_seq1 ?_
      have e := r_is_spots ps ws h1.1 ha
      rcases h3 with rfl | rfl <;> simp [e]
    · have e := r_is_wishes ps ws ht h1
      have n1 : ¬ (("head" : Str) = "only") := by decide +kernel
      have n2 : ¬ (("head" : Str) = "lift") := by decide +kernel
      have n3 : ¬ (("head" : Str) = "swap") := by decide +kernel
      have m1 : ¬ (("pad" : Str) = "only") := by decide +kernel
      have m2 : ¬ (("pad" : Str) = "lift") := by decide +kernel
      have m3 : ¬ (("pad" : Str) = "swap") := by decide +kernel
      have m4 : ¬ (("pad" : Str) = "head") := by decide +kernel
      rcases h3 with rfl | rfl
      · simp [e, n1, n2, n3]
      · simp [e, m1, m2, m3, m4]
  | g2 qs =>
    obtain ⟨h1, h2, h3⟩ := hg
    have e := r_is_swaps ps qs h1 h2 h3
    refine Rt_seq (P0 := fun sl io => sl = [.dat (dT ps), .dat (gD (.g2 qs)), .dat (.str "swap"), .dat (dP qs)] ∧ io = []) ?_ ?_
    · simp [gD, tgGo, setAll]
    rintro sl io ⟨rfl, rfl⟩
    have m1 : ¬ (("swap" : Str) = "only") := by decide +kernel
    have m2 : ¬ (("swap" : Str) = "lift") := by decide +kernel
    simp [e, m1, m2]
theorem r_is_door (ps : List Nat) (ht : TreeOk ps) (g : Gate) (hg : GOk ps g) : run_is_door [dT ps, gD g] = some (.dat (.bool true)) := by
  refine runD_rt rfl ?_ rfl
  unfold d_is_door
  simp [slots, r_need_tree ps ht, r_door_fits ps ht g hg]
end K74
set_option Elab.async false
set_option linter.all false
set_option maxRecDepth 100000
set_option maxHeartbeats 1000000
namespace K74
open PySem L2 DD TL StrLaws
theorem tl_inj {a b : Str} (h : tl a = tl b) : a = b := by
  have := map_tl_inj (l := [a]) (m := [b]) (by rw [List.map_cons, List.map_cons, h])
  cases this
  rfl
def pT (p : Nat × Nat) : Str := ⟨#[97 + p.1, 62, 97 + p.2]⟩
theorem pT_tl (p : Nat × Nat) : tl (pT p) = [97 + p.1, 62, 97 + p.2] := rfl
theorem gt_tl : tl (">" : Str) = [62] := by decide +kernel
theorem pT_app (p : Nat × Nat) : ltr p.1 ++ ">" ++ ltr p.2 = pT p := by
  refine tl_inj ?_
  rw [tl_append, tl_append, gt_tl]; rfl
def Lw (ws : List Nat) : List Str := if ws = [] then ["-"] else ws.map ltr
def Lp (qs : List (Nat × Nat)) : List Str := if qs = [] then ["-"] else qs.map pT
theorem lets_Lw (ws : List Nat) : lets ws = Txt.join " " (Lw ws) := by
  unfold lets Lw
  split
  · rw [dash_join]
  · rfl
theorem Lw_ne (ws : List Nat) : Lw ws ≠ [] := by
  unfold Lw
  split
  · simp
  · simpa using (by assumption)
theorem Lp_ne (ws : List (Nat × Nat)) : Lp ws ≠ [] := by
  unfold Lp
  split
  · simp
  · simpa using (by assumption)
theorem join_cons (x : Str) {l : List Str} (h : l ≠ []) : Txt.join " " (x :: l) = x ++ " " ++ Txt.join " " l := by
  rw [join_eq, join_eq]
  cases l with
  | nil => exact absurd rfl h
  | cons a r => rfl
def gParts : Gate → List Str
  | .g1 w ws => w :: Lw ws
  | .g2 qs => "swap" :: Lp qs
def gText (g : Gate) : Str := Txt.join " " (gParts g)
theorem gText1 (w : Str) (ws : List Nat) : gText (.g1 w ws) = w ++ " " ++ lets ws := by
  rw [lets_Lw, ← join_cons w (Lw_ne ws)]; rfl
theorem word_mem : ∀ w ∈ ([("only" : Str), "lift", "head", "pad"] : List Str), w.length ≤ 4 ∧ 32 ∉ tl w ∧ w.cps.all (· < 0x110000) = true ∧ w ≠ "swap" ∧ inD (.str w) (.tuple [.str "only", .str "lift", .str "head", .str "pad"]) = some true := by decide +kernel
theorem word1 {ps : List Nat} {w : Str} {ws : List Nat} (h : GOk ps (.g1 w ws)) : w ∈ ([("only" : Str), "lift", "head", "pad"] : List Str) := by
  obtain ⟨_, _, h⟩ := h
  simp
  rcases h with ⟨h | h, _⟩ | h | h <;> simp [h]
theorem swap_len : ("swap" : Str).length = 4 := by decide +kernel
theorem swap_tl : 32 ∉ tl ("swap" : Str) := by decide +kernel
theorem dash_tl : 32 ∉ tl ("-" : Str) := by decide +kernel
theorem gParts_no {ps : List Nat} {g : Gate} (h : GOk ps g) : ∀ p ∈ gParts g, 32 ∉ tl p := by
  intro p hp
  cases g with
  | g1 w ws =>
    rcases List.mem_cons.mp hp with rfl | hp
    · exact (word_mem _ (word1 h)).2.1
    unfold Lw at hp
    split at hp
    · rw [List.mem_singleton] at hp; subst hp; exact dash_tl
    · obtain ⟨a, _, rfl⟩ := List.mem_map.mp hp
      rw [ltr_tl, List.mem_singleton]
      omega
  | g2 qs =>
    rcases List.mem_cons.mp hp with rfl | hp
    · exact swap_tl
    unfold Lp at hp
    split at hp
    · rw [List.mem_singleton] at hp; subst hp; exact dash_tl
    · obtain ⟨a, _, rfl⟩ := List.mem_map.mp hp
      rw [pT_tl]
      simp
      omega
theorem gText_split {ps : List Nat} {g : Gate} (h : GOk ps g) : Txt.split (gText g) " " = gParts g := by
  refine split_join sp_tl sp_k (by cases g <;> simp [gParts]) (gParts_no h)
theorem sum_le {B : Nat} : ∀ {l : List Str}, (∀ x ∈ l, x.length ≤ B) → (l.map (·.length)).sum ≤ l.length * B
  | [], _ => by simp
  | a :: l, h => by
    have h1 := h a List.mem_cons_self
    have h2 := sum_le fun x hx => h x (List.mem_cons_of_mem _ hx)
    rw [List.map_cons, List.sum_cons, List.length_cons, Nat.add_mul]
    omega
theorem dash_len : ("-" : Str).length = 1 := by decide +kernel
theorem gParts_small {ps : List Nat} {g : Gate} (h : GOk ps g) : (gParts g).length ≤ 50 ∧ ∀ x ∈ gParts g, x.length ≤ 4 := by
  cases g with
  | g1 w ws =>
    have hl := h.2.1
    constructor
    · have : (Lw ws).length ≤ 40 := by
        unfold Lw
        split
        · simp
        · rw [List.length_map]; exact hl
      show (w :: Lw ws).length ≤ 50
      rw [List.length_cons]
      omega
    · intro x hx
      rcases List.mem_cons.mp hx with rfl | hx
      · exact (word_mem _ (word1 h)).1
      unfold Lw at hx
      split at hx
      · rw [List.mem_singleton] at hx; subst hx; rw [dash_len]; omega
      · obtain ⟨a, _, rfl⟩ := List.mem_map.mp hx
        rw [ltr_len]; omega
  | g2 qs =>
    have hl := h.2.1
    constructor
    · have : (Lp qs).length ≤ 10 := by
        unfold Lp
        split
        · simp
        · rw [List.length_map]; exact hl
      show ("swap" :: Lp qs : List Str).length ≤ 50
      rw [List.length_cons]
      omega
    · intro x hx
      rcases List.mem_cons.mp hx with rfl | hx
      · rw [swap_len]; omega
      unfold Lp at hx
      split at hx
      · rw [List.mem_singleton] at hx; subst hx; rw [dash_len]; omega
      · obtain ⟨a, _, rfl⟩ := List.mem_map.mp hx
        show 3 ≤ 4
        omega
theorem gText_len {ps : List Nat} {g : Gate} (h : GOk ps g) : (gText g).length ≤ 250 ∧ joinLen " " (gParts g) ≤ LIM := by
  obtain ⟨h1, h2⟩ := gParts_small h
  have h3 := sum_le h2
  have h4 := join_length_le " " (gParts g)
  have h5 : (gParts g).length * 4 ≤ 50 * 4 := Nat.mul_le_mul_right _ h1
  rw [sp_len] at h4
  constructor
  · unfold gText
    rw [join_eq]
    omega
  · unfold joinLen
    rw [sp_len]
    unfold LIM
    omega
theorem gText_Small {ps : List Nat} {g : Gate} (ht : TreeOk ps) (h : GOk ps g) : Small (.str (gText g)) := by
  refine Small.str ?_ (by have := (gText_len h).1; omega)
  unfold gText
  rw [join_eq, ← Array.all_toList]
  show (tl (Str.join " " (gParts g))).all _ = true
  rw [tl_join, List.all_eq_true]
  intro x hx
  have hp9 := ht.1
  rcases joinL_mem hx with h' | ⟨p, hp, h'⟩
  · rw [sp_tl, List.mem_singleton] at h'
    subst h'; decide
  · obtain ⟨y, hy, rfl⟩ := List.mem_map.mp hp
    have lit : ∀ z : Str, (tl z).all (fun c => decide (c < 0x110000)) = true → x ∈ tl z → decide (x < 0x110000) = true := fun z hz hx => List.all_eq_true.mp hz x hx
    cases g with
    | g1 w ws =>
      rcases List.mem_cons.mp hy with rfl | hy
      · refine lit _ ?_ h'
        have := (word_mem _ (word1 h)).2.2.1
        rw [← Array.all_toList] at this
        exact this
      unfold Lw at hy
      split at hy
      · rw [List.mem_singleton] at hy; subst hy; exact lit _ (by decide +kernel) h'
      · obtain ⟨a, ha, rfl⟩ := List.mem_map.mp hy
        rw [ltr_tl, List.mem_singleton] at h'
        have := h.1.lt ht ha
        subst h'
        exact decide_eq_true (by omega)
    | g2 qs =>
      rcases List.mem_cons.mp hy with rfl | hy
      · exact lit _ (by decide +kernel) h'
      unfold Lp at hy
      split at hy
      · rw [List.mem_singleton] at hy; subst hy; exact lit _ (by decide +kernel) h'
      · obtain ⟨a, ha, rfl⟩ := List.mem_map.mp hy
        have := h.1 a ha
        rw [pT_tl] at h'
        simp at h'
        exact decide_eq_true (by omega)
theorem pD_each {qs : List (Nat × Nat)} (h : ∀ q ∈ qs, q.1 < 10 ∧ q.2 < 10) : Each 1 44 (qs.map pD) := fun d hd => by
  obtain ⟨q, hq, rfl⟩ := List.mem_map.mp hd
  have ho := h q hq
  have e : Each 0 21 ([q.1, q.2].map nD) := nD_each fun w hw => by
    rcases List.mem_cons.mp hw with rfl | hw
    · exact ho.1
    · rw [List.mem_singleton] at hw; subst hw; exact ho.2
  obtain ⟨a, b, c⟩ := e.all
  have c' : PyData.weightAll [nD q.1, nD q.2] ≤ 44 := c
  have b' : PyData.depthAll [nD q.1, nD q.2] ≤ 0 := b
  exact ⟨by simp only [pD, leaf]; exact a, by simp only [pD, PyData.depth]; omega, by simp only [pD, PyData.weight]; omega⟩
theorem gD_small {ps : List Nat} {g : Gate} (ht : TreeOk ps) (h : GOk ps g) : Small (gD g) := by
  have hp9 := ht.1
  cases g with
  | g1 w ws =>
    have hw := word_mem _ (word1 h)
    have hs := Small.str hw.2.2.1 (by omega)
    obtain ⟨a, b, c⟩ := (nD_each (l := ws) fun x hx => h.1.lt ht hx).all
    have hl := h.2.1
    rw [List.length_map] at c
    have c2 : ws.length * (21 + 1) ≤ 40 * 22 := Nat.mul_le_mul_right _ hl
    refine Small.tuple (n := 1) (w := 1000) (fun d hd => ?_) (by omega) (by simp)
    rcases List.mem_cons.mp hd with rfl | hd
    · exact ⟨hs.lf, by simp only [PyData.depth]; omega, by simp only [PyData.weight]; exact Nat.le_trans hw.1 (by omega)⟩
    rw [List.mem_singleton] at hd
    subst hd
    exact ⟨by simp only [dW, leaf]; exact a, by simp only [dW, PyData.depth]; omega, by simp only [dW, PyData.weight]; omega⟩
  | g2 qs =>
    have hs : Small (.str "swap") := Small.str (by decide +kernel) (by rw [swap_len]; omega)
    obtain ⟨a, b, c⟩ := (pD_each (qs := qs) fun x hx => by have := h.1 x hx; omega).all
    have hl := h.2.1
    rw [List.length_map] at c
    have c2 : qs.length * (44 + 1) ≤ 10 * 45 := Nat.mul_le_mul_right _ hl
    refine Small.tuple (n := 2) (w := 1000) (fun d hd => ?_) (by omega) (by simp)
    rcases List.mem_cons.mp hd with rfl | hd
    · exact ⟨hs.lf, by simp only [PyData.depth]; omega, by simp only [PyData.weight]; have := swap_len; exact Nat.le_trans (Nat.le_of_eq this) (by omega)⟩
    rw [List.mem_singleton] at hd
    subst hd
    exact ⟨by simp only [dP, leaf]; exact a, by simp only [dP, PyData.depth]; omega, by simp only [dP, PyData.weight]; omega⟩
/-! written -/
theorem pT_len (p : Nat × Nat) : (pT p).length = 3 := rfl
theorem gt_len : (">" : Str).length = 1 := by decide +kernel
theorem app_len (a b : Str) : (a ++ b).length = a.length + b.length := strLen_append a b
theorem em_app (a : Str) : Str.empty ++ a = a := by
  refine tl_inj ?_
  rw [tl_append]; rfl
theorem pairs_comp (qs : List (Nat × Nat)) (hq : ∀ q ∈ qs, q.1 < 10 ∧ q.2 < 10) (hl : qs.length ≤ 100) (a b : S) (w : List S) (hw : w.length = 4) (io : IO) :
    lcGo none (.many [4, 5]) dYes (dFs [dFmt (dOp idxD (dC (.str "abcdefghij")) (dVar 4)), dC (.str ">"), dFmt (dOp idxD (dC (.str "abcdefghij")) (dVar 5))]) (w ++ [a, b]) (qs.map pD) 0 io = some ((qs.map pT).map .str, io) := by
  obtain ⟨w0, w1, w2, w3, rfl⟩ : ∃ w0 w1 w2 w3, w = [w0, w1, w2, w3] := by
    match w, hw with
    | [w0, w1, w2, w3], _ => exact ⟨_, _, _, _, rfl⟩
  rw [List.map_map]
  refine lcGo_mapL rfl pD (PyData.str ∘ pT) qs 0 (by unfold LIM; omega) fun q hm => ⟨[w0, w1, w2, w3, .dat (nD q.1), .dat (nD q.2)], .dat (.str (pT q)), rfl, ?_, rfl⟩
  have h := hq q hm
  have e1 := r_letter q.1 h.1
  have e2 := r_letter q.2 h.2
  have l1 : (ltr q.1).length ≤ LIM := by rw [ltr_len]; decide
  have l2 : (ltr q.2).length ≤ LIM := by rw [ltr_len]; decide
  have f1 : dFmt (dOp idxD (dC (.str "abcdefghij")) (dVar 4)) [w0, w1, w2, w3, .dat (nD q.1), .dat (nD q.2)] io = some (.dat (.str (ltr q.1)), io) := by
    have : dOp idxD (dC (.str "abcdefghij")) (dVar 4) [w0, w1, w2, w3, .dat (nD q.1), .dat (nD q.2)] io = some (.dat (.str (ltr q.1)), io) := by simp [-idxD_str, e1]
    unfold dFmt
    rw [this]
    simp [l1]
  have f2 : dFmt (dOp idxD (dC (.str "abcdefghij")) (dVar 5)) [w0, w1, w2, w3, .dat (nD q.1), .dat (nD q.2)] io = some (.dat (.str (ltr q.2)), io) := by
    have : dOp idxD (dC (.str "abcdefghij")) (dVar 5) [w0, w1, w2, w3, .dat (nD q.1), .dat (nD q.2)] io = some (.dat (.str (ltr q.2)), io) := by simp [-idxD_str, e2]
    unfold dFmt
    rw [this]
    simp [l2]
  have g1 : (ltr q.1 ++ ">").length ≤ LIM := by rw [app_len, ltr_len, gt_len]; decide
  have g2 : (pT q).length ≤ LIM := by rw [pT_len]; decide
  unfold dFs
  simp only [jsGo, f1, bind_some', em_app, l1, if_true, dC_ap, g1, f2, pT_app, g2, Option.map_some]
theorem pairs_comp2 (qs : List (Nat × Nat)) (hq : ∀ q ∈ qs, q.1 < 10 ∧ q.2 < 10) (hl : qs.length ≤ 100) (w0 w1 a b : S) (io : IO) :
    lcGo none (.many [2, 3]) dYes (dOp addD (dOp addD (dOp idxD (dC (.str "abcdefghij")) (dVar 2)) (dC (.str ">"))) (dOp idxD (dC (.str "abcdefghij")) (dVar 3))) [w0, w1, a, b] (qs.map pD) 0 io = some ((qs.map pT).map .str, io) := by
  rw [List.map_map]
  refine lcGo_mapL rfl pD (PyData.str ∘ pT) qs 0 (by unfold LIM; omega) fun q hm => ⟨[w0, w1, .dat (nD q.1), .dat (nD q.2)], .dat (.str (pT q)), rfl, ?_, rfl⟩
  have h := hq q hm
  have e1 := r_letter q.1 h.1
  have e2 := r_letter q.2 h.2
  have a1 : addD (.str (ltr q.1)) (.str ">") = some (.dat (.str (ltr q.1 ++ ">"))) := by rw [addD_str, if_pos (by rw [ltr_len, gt_len]; decide)]
  have a2 : addD (.str (ltr q.1 ++ ">")) (.str (ltr q.2)) = some (.dat (.str (pT q))) := by rw [addD_str, if_pos (by rw [app_len, ltr_len, ltr_len, gt_len]; decide), pT_app]
  simp [-idxD_str, e1, e2, -addD_str, a1, a2]
end K74
set_option Elab.async false
set_option linter.all false
set_option maxRecDepth 100000
set_option maxHeartbeats 1000000
namespace K74
open PySem L2 DD TL StrLaws
theorem shaped_tup {ds : List D} (h : leafs ds = true) (hd : PyData.depthAll ds ≤ 63) : SeqAt.shaped (.tuple ds) = true := by
  unfold SeqAt.shaped
  rw [PyData.canLay0, (leafs_lay h).1, PyData.depth, decide_eq_true (by omega)]; rfl
theorem shaped_lst {ds : List D} (h : leafs ds = true) (hd : PyData.depthAll ds ≤ 63) : SeqAt.shaped (.list ds) = true := by
  unfold SeqAt.shaped
  rw [PyData.canLay0, (leafs_lay h).1, PyData.depth, decide_eq_true (by omega)]; rfl
theorem eq_nilL {ds : List D} (h : leafs ds = true) (hd : PyData.depthAll ds ≤ 63) : eqD (.list ds) (.list []) = some (decide (ds = [])) := by
  have h2 : SeqAt.shaped (.list []) = true := by decide
  unfold eqD
  simp only [eqS, shaped_lst h hd, h2, Bool.and_self, if_true]
  cases ds with
  | nil => simp [PyData.eqv, PyData.eqvAll]
  | cons a l => simp [PyData.eqv, PyData.eqvAll]
theorem eq_nilT {ds : List D} (h : leafs ds = true) (hd : PyData.depthAll ds ≤ 63) : eqD (.tuple ds) (.tuple []) = some (decide (ds = [])) := by
  have h2 : SeqAt.shaped (.tuple []) = true := by decide
  unfold eqD
  simp only [eqS, shaped_tup h hd, h2, Bool.and_self, if_true]
  cases ds with
  | nil => simp [PyData.eqv, PyData.eqvAll]
  | cons a l => simp [PyData.eqv, PyData.eqvAll]
/-! written -/
theorem add1 {w x : Str} (hw : w.length ≤ 10) (hx : x.length ≤ 2010) : addD (.str (w ++ " ")) (.str x) = some (.dat (.str (w ++ " " ++ x))) := by
  rw [addD_str, if_pos]
  rw [app_len, sp_len]
  unfold LIM
  omega
theorem add0 {w : Str} (hw : w.length ≤ 10) : addD (.str w) (.str " ") = some (.dat (.str (w ++ " "))) := by
  rw [addD_str, if_pos]
  rw [sp_len]
  unfold LIM
  omega
theorem lists_text {qs : List (Nat × Nat)} {ps : List Nat} (h : GOk ps (.g2 qs)) (hn : qs ≠ []) : joinD " " [.list ((("swap" : Str) :: qs.map pT).map .str)] = some (.dat (.str (gText (.g2 qs)))) := by
  have e : gParts (.g2 qs) = ("swap" : Str) :: qs.map pT := by
    show ("swap" : Str) :: Lp qs = _
    unfold Lp
    rw [if_neg hn]
  have := (gText_len h).2
  rw [e] at this
  rw [joinD_lst, strsOf_strs, bind_some', if_pos this]
  unfold gText
  rw [e]
theorem swap0 : gText (.g2 []) = "swap -" := by decide +kernel
theorem add_swap {qs : List (Nat × Nat)} (hl : qs.length ≤ 10) : addD (.list [.str "swap"]) (.list ((qs.map pT).map .str)) = some (.tmp ((("swap" : Str) :: qs.map pT).map .str)) := by
  rw [addD_lst, if_pos (by simp; unfold LIM; omega)]; rfl
theorem r_write_door (ps : List Nat) (ht : TreeOk ps) (g : Gate) (hg : GOk ps g) : run_write_door [dT ps, gD g] = some (.dat (.str (gText g))) := by
  have hp9 := ht.1
  refine runD_rt rfl ?_ rfl
  unfold d_write_door
  refine Rt_seq (P0 := fun sl io => sl = [.dat (dT ps), .dat (gD g), .un, .un, .un, .un] ∧ io = []) ?_ ?_
  · simp [slots, r_need_tree ps ht]
  rintro sl io ⟨rfl, rfl⟩
  refine Rt_seq (P0 := fun sl io => sl = [.dat (dT ps), .dat (gD g), .un, .un, .un, .un] ∧ io = []) ?_ ?_
  · simp [r_door_fits ps ht g hg]
  rintro sl io ⟨rfl, rfl⟩
  cases g with
  | g1 w ws =>
    have hw := word_mem _ (word1 hg)
    refine Rt_seq (P0 := fun sl io => sl = [.dat (dT ps), .dat (gD (.g1 w ws)), .dat (.str w), .dat (dW ws), .un, .un] ∧ io = []) ?_ ?_
    · simp [gD, tgGo, setAll]
    rintro sl io ⟨rfl, rfl⟩
    refine Rt_seq1 ?_
    have e := r_locales_written ws (fun x hx => hg.1.lt ht hx) hg.1.2
    have := lets_len ws
    have := hg.2.1
    have a0 := add0 (w := w) (by omega)
    have a1 := add1 (w := w) (x := lets ws) (by omega) (by omega)
    rw [gText1]
    simp [hw.2.2.2.1, e, -addD_str, a0, a1]
  | g2 qs =>
    refine Rt_seq (P0 := fun sl io => sl = [.dat (dT ps), .dat (gD (.g2 qs)), .dat (.str "swap"), .dat (dP qs), .un, .un] ∧ io = []) ?_ ?_
    · simp [gD, tgGo, setAll]
    rintro sl io ⟨rfl, rfl⟩
    refine Rt_seq (P0 := fun sl io => sl = [.dat (dT ps), .dat (gD (.g2 qs)), .dat (.str "swap"), .dat (dP qs), .un, .un] ∧ io = []) ?_ ?_
    · simp
    rintro sl io ⟨rfl, rfl⟩
    by_cases hn : qs = []
    · subst hn
      refine Rt_seq1 ?_
      simp [dP, swap0]
    · refine Rt_seq (P0 := fun sl io => sl = [.dat (dT ps), .dat (gD (.g2 qs)), .dat (.str "swap"), .dat (dP qs), .un, .un] ∧ io = []) ?_ ?_
      · simp [dP, hn]
      rintro sl io ⟨rfl, rfl⟩
      have e1 := pairs_comp qs (fun q hq => by have := hg.1 q hq; omega) (by have := hg.2.1; omega) .un .un [.dat (dT ps), .dat (gD (.g2 qs)), .dat (.str "swap"), .dat (dP qs)] rfl []
      have e1' : lcGo none (.many [4, 5]) dYes (dFs [dFmt (dOp idxD (dC (.str "abcdefghij")) (dVar 4)), dC (.str ">"), dFmt (dOp idxD (dC (.str "abcdefghij")) (dVar 5))]) [.dat (dT ps), .dat (gD (.g2 qs)), .dat (.str "swap"), .dat (dP qs), .un, .un] (qs.map pD) 0 [] = some ((qs.map pT).map .str, []) := e1
      have e2 := add_swap hg.2.1
      have e3 := lists_text hg hn
      have e5 : itemsOf [] (.dat (dP qs)) = some (qs.map pD, none) := rfl
      simp [e5, e1', show 1 ≤ LIM by decide, -addD_lst, e2, -joinD_lst, e3, -List.map_cons, -List.map_map]
theorem r_lettersL (ws : List Nat) (hw : ∀ w ∈ ws, w < 10) (hl : ws.length ≤ 1000) : run__law_letters [.list (ws.map nD)] = some (.dat (.str (lets ws))) := by
  have e := fun sl => lets_comp ws hw hl sl [] 1
  refine runD_rt rfl ?_ rfl
  unfold d__law_letters
  obtain ⟨q1, q2, _⟩ := (nD_each hw).all
  have eq := eq_nilL q1 (by omega)
  have es : slots 2 ([.list (ws.map nD)].map .dat) = [.dat (.list (ws.map nD)), .un] := rfl
  rw [es]
  by_cases h0 : ws = []
  · subst h0
    refine Rt_seq1 ?_
    have eq' : eqD (.list []) (.list []) = some true := by rw [List.map_nil] at eq; rw [eq]; rfl
    simp [lets, eq']
  · have hm : ws.map nD ≠ [] := by simpa using h0
    rw [decide_eq_false hm] at eq
    have e1 := e [.dat (.list (ws.map nD)), .un] (by simp)
    have e4 : joinD " " [.list ((ws.map ltr).map .str)] = some (.dat (.str (lets ws))) := by
      rw [joinD_lst, strsOf_strs, bind_some', if_pos (join_small _ hl)]
      unfold lets
      rw [if_neg h0]
    generalize ws.map nD = Z at *
    refine Rt_seq (P0 := fun sl io => sl = [.dat (.list Z), .un] ∧ io = []) ?_ ?_
    · simp [eq]
    rintro sl io ⟨rfl, rfl⟩
    simp [e1, e4, -joinD_lst, -List.map_map]
theorem same_comp (ws : List Nat) (hl : ws.length ≤ 1000) (sl : List S) (io : IO) (k : Nat) (hk : k < sl.length) : lcGo none (.one k) dYes (dVar k) sl (ws.map nD) 0 io = some (ws.map nD, io) :=
  lcGo_mapL rfl nD nD ws 0 (by unfold LIM; omega) fun w _ => ⟨_, .dat (nD w), rfl, by simp [List.getElem?_set_self hk], rfl⟩
theorem r_door_words (ps : List Nat) (ht : TreeOk ps) (g : Gate) (hg : GOk ps g) : run__law_door_words [gD g] = some (.dat (.str (gText g))) := by
  have hp9 := ht.1
  refine runD_rt rfl ?_ rfl
  unfold d__law_door_words
  have es : slots 4 ([gD g].map .dat) = [.dat (gD g), .un, .un, .un] := rfl
  rw [es]
  cases g with
  | g1 w ws =>
    have hw := word_mem _ (word1 hg)
    have i0 : idxD (gD (.g1 w ws)) (.int 0) = some (.dat (.str w)) := rfl
    have i1 : idxD (gD (.g1 w ws)) (.int 1) = some (.dat (dW ws)) := rfl
    have i2 : itemsOf [] (.dat (dW ws)) = some (ws.map nD, none) := rfl
    have e := r_lettersL ws (fun x hx => hg.1.lt ht hx) hg.1.2
    have e1 := same_comp ws hg.1.2 [.dat (gD (.g1 w ws)), .un, .un, .un] [] 1 (by simp)
    have := lets_len ws
    have := hg.2.1
    have a0 := add0 (w := w) (by omega)
    have a1 := add1 (w := w) (x := lets ws) (by omega) (by omega)
    refine Rt_seq1 ?_
    rw [gText1]
    simp [i0, i1, i2, hw.2.2.2.1, e1, e, -addD_str, a0, a1]
  | g2 qs =>
    have i0 : idxD (gD (.g2 qs)) (.int 0) = some (.dat (.str "swap")) := rfl
    have i1 : idxD (gD (.g2 qs)) (.int 1) = some (.dat (dP qs)) := rfl
    have i2 : itemsOf [] (.dat (dP qs)) = some (qs.map pD, none) := rfl
    obtain ⟨q1, q2, _⟩ := (pD_each (qs := qs) fun q hq => by have := hg.1 q hq; omega).all
    have eq : eqD (dP qs) (.tuple []) = some (decide (qs.map pD = [])) := eq_nilT q1 (by omega)
    by_cases hn : qs = []
    · subst hn
      refine Rt_seq1 ?_
      have e := r_lettersL [] (fun x hx => nomatch hx) (by simp)
      have e1 := same_comp [] (by simp) [.dat (gD (.g2 [])), .un, .un, .un] [] 1 (by simp)
      rw [List.map_nil] at e e1
      have a0 := add0 (w := "swap") (by rw [swap_len]; omega)
      have a1 := add1 (w := "swap") (x := "-") (by rw [swap_len]; omega) (by rw [dash_len]; omega)
      have l0 : lets [] = "-" := rfl
      have sw : ("swap" : Str) ++ " " ++ "-" = "swap -" := by decide +kernel
      rw [l0] at e
      simp [i0, i1, i2, eq, e, e1, -addD_str, a0, a1, sw, swap0]
    · have hm : qs.map pD ≠ [] := by simpa using hn
      rw [decide_eq_false hm] at eq
      refine Rt_seq (P0 := fun sl io => sl = [.dat (gD (.g2 qs)), .un, .un, .un] ∧ io = []) ?_ ?_
      · simp [i0, i1, eq]
      rintro sl io ⟨rfl, rfl⟩
      have e1 := pairs_comp2 qs (fun q hq => by have := hg.1 q hq; omega) (by have := hg.2.1; omega) (.dat (gD (.g2 qs))) .un .un .un []
      have e2 := add_swap hg.2.1
      have e3 := lists_text hg hn
      simp [i1, i2, e1, show 1 ≤ LIM by decide, -addD_lst, e2, -joinD_lst, e3, -List.map_cons, -List.map_map]
end K74
set_option Elab.async false
set_option linter.all false
set_option maxRecDepth 100000
set_option maxHeartbeats 1000000
namespace K74
open PySem L2 DD TL StrLaws
theorem at1 (d e : D) (l : List D) : atI (d :: e :: l) 1 = some e := at_cons d (e :: l) 0
theorem r_none_not1 (w x : D) (s : Str) (r : List D) (hx : x = .str s) (h : s ≠ "-") : run_none_written [.list (w :: x :: r), .int 1] = some (.dat (.bool false)) := by
  subst hx
  refine runD_rt rfl ?_ rfl
  have e0 : ¬ ((r.length : Int) + 1 + 1 ≤ 1) := by omega
  unfold d_none_written
  refine Rt_seq (P0 := fun sl io => sl = [.dat (.list (w :: .str s :: r)), .dat (.int 1)] ∧ io = []) ?_ ?_
  · simp [slots, e0]
  rintro sl io ⟨rfl, rfl⟩
  refine Rt_seq1 ?_
  simp [at1, h]
theorem r_none_yes1 (w : D) : run_none_written [.list [w, .str "-"], .int 1] = some (.dat (.bool true)) := by
  refine runD_rt rfl ?_ rfl
  unfold d_none_written
  refine Rt_seq (P0 := fun sl io => sl = [.dat (.list [w, .str "-"]), .dat (.int 1)] ∧ io = []) ?_ ?_
  · simp [slots]
  rintro sl io ⟨rfl, rfl⟩
  refine Rt_seq (P0 := fun sl io => sl = [.dat (.list [w, .str "-"]), .dat (.int 1)] ∧ io = []) ?_ ?_
  · simp [at1]
  rintro sl io ⟨rfl, rfl⟩
  simp
theorem r_locales_read (w : D) (ws : List Nat) (c : Nat) (b : Bool) (hw : ∀ w ∈ ws, w < c) (hc : c < 11) (hn : ws ≠ []) (hl : ws.length ≤ 1000) (ha : b = true → Asc ws) : run_locales_read [.list (w :: ws.map lD), .int 1, nD c, .bool b] = some (.dat (dW ws)) := by
  refine runD_rt rfl ?_ (by show imAll _ = true; simp)
  unfold d_locales_read
  refine Rt_seq (P0 := fun sl io => sl = [.dat (.list (w :: ws.map lD)), .dat (.int 1), .dat (nD c), .dat (.bool b), .un, .un, .un] ∧ io = []) ?_ ?_
  · obtain ⟨w0, wr, rfl⟩ : ∃ w0 wr, ws = w0 :: wr := by cases ws with
      | nil => exact absurd rfl hn
      | cons a l => exact ⟨a, l, rfl⟩
    have h0 := r_none_not1 w (lD w0) (ltr w0) (wr.map lD) rfl (ltr_dash w0 (by have := hw w0 List.mem_cons_self; omega))
    simp [slots, h0]
  rintro sl io ⟨rfl, rfl⟩
  refine Rt_seq (P0 := fun sl io => sl = [.dat (.list (w :: ws.map lD)), .dat (.int 1), .dat (nD c), .dat (.bool b), .ref 0, .un, .un] ∧ io = [[]]) ?_ ?_
  · simp
  rintro sl io ⟨rfl, rfl⟩
  have hr := fun io => rng2K_ap (io := io) (i := 1) (j := (ws.length : Int) + 1) (n := ws.length) (by omega) (by omega) (by omega)
  refine Rt_seq (Nx_for (items := rngItems 1 ws.length) (c := none) (io1 := [[]]) (fun i sl io => ∃ s1 s2, sl = [.dat (.list (w :: ws.map lD)), .dat (.int 1), .dat (nD c), .dat (.bool b), .ref 0, s1, s2] ∧ io = [(ws.take i).map nD]) ?_ ⟨_, _, rfl, rfl⟩ ?_ fun _ _ _ => rfl) ?_
  · simp [hr]
  · rintro i d sl io hi ⟨s1, s2, rfl, rfl⟩
    obtain ⟨hil, rfl⟩ := rngItems_get hi
    have hp : ws[i]? = some ws[i] := List.getElem?_eq_getElem hil
    have hlt := hw ws[i] (List.getElem_mem hil)
    have e1 : atI (w :: ws.map lD) (1 + (i : Int)) = some (lD ws[i]) := by rw [at_cons, List.getElem?_map, hp]; rfl
    have e2 : run_locale_read [lD ws[i], nD c] = some (.dat (nD ws[i])) := r_locale_read ws[i] c hlt hc
    have e3 : ((ws.take i).map nD).length < LIM := by rw [List.length_map, List.length_take]; unfold LIM; omega
    refine ⟨rfl, ?_⟩
    simp only [tgGo_one, bind_some']
    refine Nx_seq (P0 := fun sl io => sl = [.dat (.list (w :: ws.map lD)), .dat (.int 1), .dat (nD c), .dat (.bool b), .ref 0, .dat (.int (1 + (i : Nat))), .dat (nD ws[i])] ∧ io = [(ws.take i).map nD]) ?_ ?_
    · simp [e1, e2]
    rintro sl io ⟨rfl, rfl⟩
    refine Nx_seq (P0 := fun sl io => sl = [.dat (.list (w :: ws.map lD)), .dat (.int 1), .dat (nD c), .dat (.bool b), .ref 0, .dat (.int (1 + (i : Nat))), .dat (nD ws[i])] ∧ io = [(ws.take i).map nD]) ?_ ?_
    · have n0 : isNonD (nD ws[i]) = false := rfl
      cases b with
      | false => simp [n0]
      | true =>
        have hasc := ha rfl
        obtain ⟨q1, q2, _⟩ := (nD_each (l := ws.take i) fun x hx => by have := hw x (List.mem_of_mem_take hx); omega).all
        have eq := eq_nilL q1 (by omega)
        cases i with
        | zero =>
          have eq' : eqD (.list []) (.list []) = some true := by rw [List.take_zero, List.map_nil] at eq; rw [eq]; rfl
          simp [n0, eq']
        | succ j =>
          have hv : ws[j]? = some (ws[j]'(by omega)) := List.getElem?_eq_getElem (by omega)
          have hlt2 := hasc j _ _ hv hp
          have et : (ws.take (j + 1)).map nD = (ws.take j).map nD ++ [nD (ws[j]'(by omega))] := by rw [take_snoc hv, List.map_append]; rfl
          have hne : (ws.take (j + 1)).map nD ≠ [] := by rw [et]; simp
          rw [decide_eq_false hne] at eq
          have el : atI ((ws.take (j + 1)).map nD) (-1) = some (nD (ws[j]'(by omega))) := by rw [et]; exact at_last _ _
          have hle : leD (nD ws[j + 1]) (nD (ws[j]'(by omega))) = some (.dat (.bool false)) := by
            show leD (.int _) (.int _) = _
            rw [leD_int, decide_eq_false (by omega)]
          generalize (ws.take (j + 1)).map nD = Z at *
          simp [n0, eq, el, hle]
    rintro sl io ⟨rfl, rfl⟩
    simp only [dApp_ap, appK_ap, dVar_ap, varK_dat, List.getElem?_cons_succ, List.getElem?_cons_zero, bind_some', appL_ap, im_nD, e3, true_and, if_true, Nx_nx, take_snoc hp, List.map_append, List.map_cons, List.map_nil]
    exact ⟨_, _, rfl, rfl⟩
  · rintro sl io ⟨s1, s2, rfl, rfl⟩
    rw [show (rngItems 1 ws.length).length = ws.length by unfold rngItems; simp, List.take_length]
    simp [dW]
theorem r_locales_read0 (w : D) (c : Nat) (b : Bool) : run_locales_read [.list [w, .str "-"], .int 1, nD c, .bool b] = some (.dat (dW [])) := by
  refine runD_rt rfl ?_ rfl
  unfold d_locales_read
  refine Rt_seq1 ?_
  simp [slots, r_none_yes1, dW]
/-! pairs -/
theorem pT_parts : ∀ a : Nat, a < 10 → ∀ b : Nat, b < 10 → cutS (pT (a, b)) none (some 1) = ltr a ∧ cutS (pT (a, b)) (some 2) none = ltr b ∧ pT (a, b) ≠ "-" := by decide +kernel
theorem pT_mid (p : Nat × Nat) : idxD (.str (pT p)) (.int 1) = some (.dat (.str ">")) := by
  rw [idxD_str, if_pos (by rw [pT_len]; decide)]; rfl
theorem r_pairs_read (w : D) (qs : List (Nat × Nat)) (c : Nat) (hq : ∀ q ∈ qs, q.1 < c ∧ q.2 < c) (hc : c < 11) (hn : qs ≠ []) (hl : qs.length ≤ 10) (ha : Asc (qs.map (·.1))) : run_pairs_read [.list (w :: qs.map fun q => .str (pT q)), .int 1, nD c] = some (.dat (dP qs)) := by
  refine runD_rt rfl ?_ (by show imAll _ = true; simp)
  unfold d_pairs_read
  generalize hL : (w :: qs.map fun q => PyData.str (pT q)) = L
  have hLl : L.length = qs.length + 1 := by rw [← hL, List.length_cons, List.length_map]
  refine Rt_seq (P0 := fun sl io => sl = [.dat (.list L), .dat (.int 1), .dat (nD c), .un, .un, .un, .un, .un] ∧ io = []) ?_ ?_
  · obtain ⟨q0, qr, hq0⟩ : ∃ q0 qr, qs = q0 :: qr := by cases qs with
      | nil => exact absurd rfl hn
      | cons a l => exact ⟨a, l, rfl⟩
    have hh := hq q0 (by rw [hq0]; exact List.mem_cons_self)
    have h0 := r_none_not1 w (.str (pT q0)) (pT q0) (qr.map fun q => .str (pT q)) rfl (pT_parts q0.1 (by omega) q0.2 (by omega)).2.2
    have h0' : run_none_written [.list L, .int 1] = some (.dat (.bool false)) := by rw [← hL, hq0]; exact h0
    simp [slots, h0']
  rintro sl io ⟨rfl, rfl⟩
  refine Rt_seq (P0 := fun sl io => sl = [.dat (.list L), .dat (.int 1), .dat (nD c), .ref 0, .un, .un, .un, .un] ∧ io = [[]]) ?_ ?_
  · simp
  rintro sl io ⟨rfl, rfl⟩
  have hr := fun io => rng2K_ap (io := io) (i := 1) (j := (L.length : Int)) (n := qs.length) (by omega) (by omega) (by omega)
  refine Rt_seq (Nx_for (items := rngItems 1 qs.length) (c := none) (io1 := [[]]) (fun i sl io => ∃ s4 s5 s6 s7, sl = [.dat (.list L), .dat (.int 1), .dat (nD c), .ref 0, s4, s5, s6, s7] ∧ io = [(qs.take i).map pD]) ?_ ⟨_, _, _, _, rfl, rfl⟩ ?_ fun _ _ _ => rfl) ?_
  · simp [hr]
  · rintro i d sl io hi ⟨s4, s5, s6, s7, rfl, rfl⟩
    obtain ⟨hil, rfl⟩ := rngItems_get hi
    have hp : qs[i]? = some qs[i] := List.getElem?_eq_getElem hil
    generalize hqi : qs[i] = q at hp
    have hqq := hq q (List.mem_of_getElem? hp)
    obtain ⟨k1, k2, k3⟩ := pT_parts q.1 (by omega) q.2 (by omega)
    have e1 : idxD (.list L) (.int (1 + (i : Int))) = some (.dat (.str (pT q))) := by rw [idxD_lst, ← hL, at_cons, List.getElem?_map, hp]; rfl
    have c1 : sliceD (.str (pT q)) none (some 1) = some (.dat (.str (ltr q.1))) := by rw [sliceD_str, if_pos (by rw [pT_len]; decide)]; exact congrArg (fun z => some (A.dat (.str z))) k1
    have c2 : sliceD (.str (pT q)) (some 2) none = some (.dat (.str (ltr q.2))) := by rw [sliceD_str, if_pos (by rw [pT_len]; decide)]; exact congrArg (fun z => some (A.dat (.str z))) k2
    have r1 := r_locale_read q.1 c hqq.1 hc
    have r2 := r_locale_read q.2 c hqq.2 hc
    have e3 : ((qs.take i).map pD).length < LIM := by rw [List.length_map, List.length_take]; unfold LIM; omega
    refine ⟨rfl, ?_⟩
    simp only [tgGo_one, bind_some']
    refine Nx_seq (P0 := fun sl io => sl = [.dat (.list L), .dat (.int 1), .dat (nD c), .ref 0, .dat (.int (1 + (i : Nat))), .dat (.str (pT q)), s6, s7] ∧ io = [(qs.take i).map pD]) ?_ ?_
    · simp [-idxD_lst, e1]
    rintro sl io ⟨rfl, rfl⟩
    refine Nx_seq (P0 := fun sl io => sl = [.dat (.list L), .dat (.int 1), .dat (nD c), .ref 0, .dat (.int (1 + (i : Nat))), .dat (.str (pT q)), .dat (nD q.1), s7] ∧ io = [(qs.take i).map pD]) ?_ ?_
    · simp [-sliceD_str, c1, r1]
    rintro sl io ⟨rfl, rfl⟩
    refine Nx_seq (P0 := fun sl io => sl = [.dat (.list L), .dat (.int 1), .dat (nD c), .ref 0, .dat (.int (1 + (i : Nat))), .dat (.str (pT q)), .dat (nD q.1), .dat (nD q.2)] ∧ io = [(qs.take i).map pD]) ?_ ?_
    · simp [-sliceD_str, c2, r2]
    rintro sl io ⟨rfl, rfl⟩
    have n1 : isNonD (nD q.1) = false := rfl
    have n2 : isNonD (nD q.2) = false := rfl
    refine Nx_seq (P0 := fun sl io => sl = [.dat (.list L), .dat (.int 1), .dat (nD c), .ref 0, .dat (.int (1 + (i : Nat))), .dat (.str (pT q)), .dat (nD q.1), .dat (nD q.2)] ∧ io = [(qs.take i).map pD]) ?_ ?_
    · simp [n1, n2, -idxD_str, pT_mid]
    rintro sl io ⟨rfl, rfl⟩
    refine Nx_seq (P0 := fun sl io => sl = [.dat (.list L), .dat (.int 1), .dat (nD c), .ref 0, .dat (.int (1 + (i : Nat))), .dat (.str (pT q)), .dat (nD q.1), .dat (nD q.2)] ∧ io = [(qs.take i).map pD]) ?_ ?_
    · obtain ⟨q1, q2, _⟩ := (pD_each (qs := qs.take i) fun x hx => by have := hq x (List.mem_of_mem_take hx); omega).all
      have eq := eq_nilL q1 (by omega)
      cases i with
      | zero =>
        have eq' : eqD (.list []) (.list []) = some true := by rw [List.take_zero, List.map_nil] at eq; rw [eq]; rfl
        simp [eq']
      | succ j =>
        have hv : qs[j]? = some (qs[j]'(by omega)) := List.getElem?_eq_getElem (by omega)
        have hlt2 := ha j (qs[j]'(by omega)).1 q.1 (by rw [List.getElem?_map, hv]; rfl) (by rw [List.getElem?_map, hp]; rfl)
        have et : (qs.take (j + 1)).map pD = (qs.take j).map pD ++ [pD (qs[j]'(by omega))] := by rw [take_snoc hv, List.map_append]; rfl
        have hne : (qs.take (j + 1)).map pD ≠ [] := by rw [et]; simp
        rw [decide_eq_false hne] at eq
        have el : atI ((qs.take (j + 1)).map pD) (-1) = some (pD (qs[j]'(by omega))) := by rw [et]; exact at_last _ _
        have i0 : idxD (pD (qs[j]'(by omega))) (.int 0) = some (.dat (nD (qs[j]'(by omega)).1)) := rfl
        have hle : leD (nD q.1) (nD (qs[j]'(by omega)).1) = some (.dat (.bool false)) := by
          show leD (.int _) (.int _) = _
          rw [leD_int, decide_eq_false (by omega)]
        generalize (qs.take (j + 1)).map pD = Z at *
        simp [eq, el, hle, i0]
    rintro sl io ⟨rfl, rfl⟩
    have ev : dTup (dCons (dVar 6) (dCons (dVar 7) dNil)) [.dat (.list L), .dat (.int 1), .dat (nD c), .ref 0, .dat (.int (1 + (i : Nat))), .dat (.str (pT q)), .dat (nD q.1), .dat (nD q.2)] [(qs.take i).map pD] = some (.dat (pD q), [(qs.take i).map pD]) := by
      simp [show 2 ≤ LIM by decide, pD]
    rw [dApp_ap]
    simp only [List.getElem?_cons_succ, List.getElem?_cons_zero, appK_ap, ev, bind_some', appL_ap, im_pD, e3, true_and, if_true, Nx_nx, take_snoc hp, List.map_append, List.map_cons, List.map_nil, List.set_cons_zero]
    exact ⟨_, _, _, _, rfl, trivial⟩
  · rintro sl io ⟨s4, s5, s6, s7, rfl, rfl⟩
    rw [show (rngItems 1 qs.length).length = qs.length by unfold rngItems; simp, List.take_length]
    simp [dP]
theorem r_pairs_read0 (w : D) (c : Nat) : run_pairs_read [.list [w, .str "-"], .int 1, nD c] = some (.dat (dP [])) := by
  refine runD_rt rfl ?_ rfl
  unfold d_pairs_read
  refine Rt_seq1 ?_
  simp [slots, r_none_yes1, dP]
theorem in2 : ∀ w ∈ ([("only" : Str), "lift", "head", "pad"] : List Str), inD (.str w) (.tuple [.str "only", .str "lift"]) = some (decide (w = "only") || decide (w = "lift")) := by decide +kernel
theorem hp_not : ¬ (("head" : Str) = "only") ∧ ¬ (("head" : Str) = "lift") ∧ ¬ (("pad" : Str) = "only") ∧ ¬ (("pad" : Str) = "lift") := by decide +kernel
theorem r_read_door (ps : List Nat) (ht : TreeOk ps) (g : Gate) (hg : GOk ps g) : run_read_door [dT ps, .str (gText g)] = some (.dat (gD g)) := by
  have hp9 := ht.1
  refine runD_rt rfl ?_ (im_gD g)
  unfold d_read_door
  refine Rt_seq (P0 := fun sl io => sl = [.dat (dT ps), .dat (.str (gText g)), .un, .un] ∧ io = []) ?_ ?_
  · simp [slots, r_need_tree ps ht]
  rintro sl io ⟨rfl, rfl⟩
  have hs : splitD (gText g) [.str " "] = some (.tmp ((gParts g).map .str)) := by
    have := (gText_len hg).1
    rw [splitD_str, if_pos ⟨by rw [sp_len]; rfl, by unfold LIM; omega⟩, gText_split hg]
  refine Rt_seq (P0 := fun sl io => sl = [.dat (dT ps), .dat (.str (gText g)), .dat (.list ((gParts g).map .str)), .un] ∧ io = []) ?_ ?_
  · simp [-splitD_str, hs]
  rintro sl io ⟨rfl, rfl⟩
  cases g with
  | g1 w ws =>
    have hw := word_mem _ (word1 hg)
    have hin2 := in2 _ (word1 hg)
    have eL : (gParts (.g1 w ws)).map PyData.str = .str w :: (Lw ws).map PyData.str := rfl
    have e0 : idxD (.list ((gParts (.g1 w ws)).map PyData.str)) (.int 0) = some (.dat (.str w)) := by rw [idxD_lst, eL, at_zero]; rfl
    have er : ∀ b : Bool, (b = true → Asc ws) → run_locales_read [.list ((gParts (.g1 w ws)).map PyData.str), .int 1, nD (ps.length + 1), .bool b] = some (.dat (dW ws)) := by
      intro b hb
      rw [eL]
      by_cases hn : ws = []
      · subst hn
        exact r_locales_read0 (.str w) _ b
      · have e : (Lw ws).map PyData.str = ws.map lD := by
          unfold Lw
          rw [if_neg hn, List.map_map]; rfl
        rw [e]
        exact r_locales_read (.str w) ws (ps.length + 1) b hg.1.1 (by omega) hn hg.1.2 hb
    have hb : (decide (w = "only") || decide (w = "lift")) = true → Asc ws := by
      intro h
      obtain ⟨_, _, h3⟩ := hg
      rcases h3 with ⟨_, h3⟩ | h3
      · exact h3
      · obtain ⟨n1, n2, n3, n4⟩ := hp_not
        rcases h3 with rfl | rfl <;> simp_all
    have er' := er _ hb
    generalize (decide (w = "only") || decide (w = "lift")) = b at *
    generalize (gParts (.g1 w ws)).map PyData.str = L at *
    refine Rt_seq (P0 := fun sl io => sl = [.dat (dT ps), .dat (.str (gText (.g1 w ws))), .dat (.list L), .dat (.str w)] ∧ io = []) ?_ ?_
    · simp [-idxD_lst, e0]
    rintro sl io ⟨rfl, rfl⟩
    refine Rt_seq (P0 := fun sl io => sl = [.dat (dT ps), .dat (.str (gText (.g1 w ws))), .dat (.list L), .dat (.str w)] ∧ io = []) ?_ ?_
    · simp [hw.2.2.2.1]
    rintro sl io ⟨rfl, rfl⟩
    refine Rt_seq1 ?_
    simp [show 4 ≤ LIM by decide, show 2 ≤ LIM by decide, hw.2.2.2.2, hin2, -lenD_tup, lenT', er', gD]
  | g2 qs =>
    have eL : (gParts (.g2 qs)).map PyData.str = .str "swap" :: (Lp qs).map PyData.str := rfl
    have e0 : idxD (.list ((gParts (.g2 qs)).map PyData.str)) (.int 0) = some (.dat (.str "swap")) := by rw [idxD_lst, eL, at_zero]; rfl
    have er : run_pairs_read [.list ((gParts (.g2 qs)).map PyData.str), .int 1, nD (ps.length + 1)] = some (.dat (dP qs)) := by
      rw [eL]
      by_cases hn : qs = []
      · subst hn
        exact r_pairs_read0 (.str "swap") _
      · have e : (Lp qs).map PyData.str = qs.map fun q => PyData.str (pT q) := by
          unfold Lp
          rw [if_neg hn, List.map_map]; rfl
        rw [e]
        exact r_pairs_read (.str "swap") qs (ps.length + 1) hg.1 (by omega) hn hg.2.1 hg.2.2
    generalize (gParts (.g2 qs)).map PyData.str = L at *
    refine Rt_seq (P0 := fun sl io => sl = [.dat (dT ps), .dat (.str (gText (.g2 qs))), .dat (.list L), .dat (.str "swap")] ∧ io = []) ?_ ?_
    · simp [-idxD_lst, e0]
    rintro sl io ⟨rfl, rfl⟩
    refine Rt_seq1 ?_
    simp [show 2 ≤ LIM by decide, -lenD_tup, lenT', er, gD]
end K74
set_option Elab.async false
set_option linter.all false
set_option maxRecDepth 100000
set_option maxHeartbeats 1000000
namespace K74
open PySem L2 DD TL StrLaws
/-- the numbers between lo and lo + m, ascending -/
def Up2 (lo m : Nat) (ws : List Nat) : Prop := Asc ws ∧ (∀ w ∈ ws, lo ≤ w ∧ w < lo + m) ∧ ws.length ≤ m
theorem rng_cons (lo m : Nat) : rngItems (lo : Int) (m + 1) = .int (lo : Int) :: rngItems ((lo + 1 : Nat) : Int) m := by
  unfold rngItems
  rw [List.range_succ_eq_map, List.map_cons, List.map_map]
  congr 1
  refine List.map_congr_left fun i _ => ?_
  show PyData.int _ = PyData.int _
  congr 1
  simp
  omega
theorem asc_cons {a : Nat} {ws : List Nat} (h : Asc ws) (h0 : ∀ w ∈ ws, a < w) : Asc (a :: ws) := by
  intro i x y hx hy
  cases i with
  | zero =>
    cases hx
    rw [List.getElem?_cons_succ] at hy
    exact h0 y (List.mem_of_getElem? hy)
  | succ j =>
    rw [List.getElem?_cons_succ] at hx hy
    exact h j x y hx hy
theorem some_spots {w2 s4 : S} {share : Int} (ps : List Nat) : ∀ (m lo cnt n : Nat) (s5 : S) (js : List D), JarOk n js → n + m ≤ 100000 → cnt + m ≤ 50 →
    ∃ ws js', lcGo none (.one 5) (dTst (dOp ltD (dFnJ run__law_pull (dCons (dVar 0) (dCons (dC (.int 4)) (dNil)))) (dVar 3))) (dVar 5) [.ref 0, .dat (dT ps), w2, .dat (.int share), s4, s5] (rngItems (lo : Int) m) cnt [js] = some (ws.map nD, [js']) ∧ Up2 lo m ws ∧ JarOk (n + m) js'
  | 0, lo, cnt, n, s5, js, hj, _, _ => ⟨[], js, rfl, ⟨fun i a b h => by simp at h, fun w h => (nomatch h), by simp⟩, hj⟩
  | m + 1, lo, cnt, n, s5, js, hj, hn, hc => by
    obtain ⟨d, js1, e1, a1, b1, j1⟩ := pull_ex (sl := [.ref 0, .dat (dT ps), w2, .dat (.int share), s4, .dat (.int (lo : Int))]) (X := dC (.int 4)) (rest := []) rfl rfl hj (by omega) (by decide) (by decide)
    have et : dTst (dOp ltD (dFnJ run__law_pull (dCons (dVar 0) (dCons (dC (.int 4)) (dNil)))) (dVar 3)) [.ref 0, .dat (dT ps), w2, .dat (.int share), s4, .dat (.int (lo : Int))] [js] = some (decide (d < share), [js1]) := by
      rw [dTst_ap, dOp_ap, e1]
      simp
    obtain ⟨ws, js2, e2, ⟨u1, u2, u3⟩, j2⟩ := some_spots (w2 := w2) (s4 := s4) (share := share) ps m (lo + 1) (cnt + 1) (n + 1) s5 js1 j1 (by omega) (by omega)
    have set5 : ∀ s, ([.ref 0, .dat (dT ps), w2, .dat (.int share), s4, s5] : List S).set 5 s = [.ref 0, .dat (dT ps), w2, .dat (.int share), s4, s] := fun _ => rfl
    rw [rng_cons]
    unfold lcGo
    rw [if_pos ⟨rfl, by unfold LIM; omega⟩]
    simp only [tgGo_one, bind_some', set5]
    rw [et]
    simp only [bind_some']
    by_cases hlt : d < share
    · rw [decide_eq_true hlt]
      simp only [if_true]
      have ev : dVar 5 [.ref 0, .dat (dT ps), w2, .dat (.int share), s4, .dat (.int (lo : Int))] [js1] = some (.dat (.int (lo : Int)), [js1]) := rfl
      rw [ev]
      simp only [bind_some', lcItem_dat, im_int, if_true, e2, Option.map_some]
      exact ⟨lo :: ws, js2, rfl, ⟨asc_cons u1 fun w hw => by have := u2 w hw; omega, fun w hw => by
        rcases List.mem_cons.mp hw with rfl | hw
        · omega
        · have := u2 w hw; omega, by rw [List.length_cons]; omega⟩, j2.mono (by omega)⟩
    · rw [decide_eq_false hlt]
      simp only [Bool.false_eq_true, if_false, e2]
      exact ⟨ws, js2, rfl, ⟨u1, fun w hw => by have := u2 w hw; omega, by omega⟩, j2.mono (by omega)⟩
theorem some_pairs {w2 s3 s4 : S} (ps : List Nat) (hp : ps.length ≤ 9) : ∀ (ws : List Nat) (cnt n : Nat) (s5 : S) (js : List D), JarOk n js → n + ws.length ≤ 100000 → cnt + ws.length ≤ 50 →
    ∃ (qs : List (Nat × Nat)) (js' : List D), lcGo none (.one 5) dYes (dTup (dCons (dVar 5) (dCons (dFnJ run__law_pull (dCons (dVar 0) (dCons (dCall lenD (dCons (dVar 1) (dNil))) (dNil)))) (dNil)))) [.ref 0, .dat (dT ps), w2, s3, s4, s5] (ws.map nD) cnt [js] = some (qs.map pD, [js']) ∧ qs.map (·.1) = ws ∧ (∀ q ∈ qs, q.2 < ps.length + 1) ∧ JarOk (n + ws.length) js'
  | [], cnt, n, s5, js, hj, _, _ => ⟨[], js, rfl, rfl, fun q h => (nomatch h), hj⟩
  | w :: ws, cnt, n, s5, js, hj, hn, hc => by
    rw [List.length_cons] at hn hc
    obtain ⟨d, js1, e1, a1, b1, j1⟩ := pull_ex (sl := [.ref 0, .dat (dT ps), w2, s3, s4, .dat (nD w)]) (X := dCall lenD (dCons (dVar 1) (dNil))) (rest := []) (size := (ps.length : Int) + 1) rfl (by simp [-lenD_tup, lenT]) hj (by omega) (by omega) (by omega)
    obtain ⟨x, rfl⟩ : ∃ x : Nat, d = (x : Int) := ⟨d.toNat, by omega⟩
    obtain ⟨qs, js2, e2, u1, u2, j2⟩ := some_pairs (w2 := w2) (s3 := s3) (s4 := s4) ps hp ws (cnt + 1) (n + 1) s5 js1 j1 (by omega) (by omega)
    have set5 : ∀ s, ([.ref 0, .dat (dT ps), w2, s3, s4, s5] : List S).set 5 s = [.ref 0, .dat (dT ps), w2, s3, s4, s] := fun _ => rfl
    have ev : dTup (dCons (dVar 5) (dCons (dFnJ run__law_pull (dCons (dVar 0) (dCons (dCall lenD (dCons (dVar 1) (dNil))) (dNil)))) (dNil))) [.ref 0, .dat (dT ps), w2, s3, s4, .dat (nD w)] [js] = some (.dat (pD (w, x)), [js1]) := by
      rw [dTup_ap, dCons_ap, dVar_ap]
      simp only [List.getElem?_cons_succ, List.getElem?_cons_zero, varK_dat, bind_some', consK_ap]
      rw [dCons_ap, e1]
      simp [show 2 ≤ LIM by decide, pD, nD]
    rw [List.map_cons]
    unfold lcGo
    rw [if_pos ⟨rfl, by unfold LIM; omega⟩]
    simp only [tgGo_one, bind_some', set5, dYes_ap, if_true]
    rw [ev]
    simp only [bind_some', lcItem_dat, im_pD, if_true, e2, Option.map_some]
    exact ⟨(w, x) :: qs, js2, rfl, by rw [List.map_cons, u1], fun q hq => by
      rcases List.mem_cons.mp hq with rfl | hq
      · show x < _; omega
      · exact u2 q hq, by rw [List.length_cons]; exact j2.mono (by omega)⟩
theorem r_some_door {n : Nat} {js : List D} (h : JarOk n js) (hn : n ≤ 900) (ps : List Nat) (hp : TreeOk ps) : ∃ g js', run__law_some_door js [dT ps] = some (.dat (gD g), js') ∧ GOk ps g ∧ JarOk (n + 190) js' := by
  have hp9 := hp.1
  suffices hs : ∃ g js', Rt (d__law_some_door (slots 6 (.ref 0 :: ([dT ps] : List D).map .dat)) [js]) (.dat (gD g)) (fun io => io[0]? = some js') ∧ GOk ps g ∧ JarOk (n + 190) js' by
    obtain ⟨g, js', h1, h2, h3⟩ := hs
    exact ⟨g, js', runJ_rt rfl h1 (im_gD g), h2, h3⟩
  have es : slots 6 (.ref 0 :: ([dT ps] : List D).map .dat) = [.ref 0, .dat (dT ps), .un, .un, .un, .un] := rfl
  rw [es]
  obtain ⟨d1, js1, e1, a1, b1, j1⟩ := pull_ex (sl := [.ref 0, .dat (dT ps), .un, .un, .un, .un]) (X := dC (.int 5)) (rest := []) rfl rfl h (by omega) (by decide) (by decide)
  obtain ⟨w, hw, hw'⟩ : ∃ w : Str, atI ([.str "only", .str "lift", .str "swap", .str "head", .str "pad"] : List D) d1 = some (.str w) ∧ w ∈ ([("only" : Str), "lift", "swap", "head", "pad"] : List Str) := by
    have : d1 = 0 ∨ d1 = 1 ∨ d1 = 2 ∨ d1 = 3 ∨ d1 = 4 := by omega
    rcases this with rfl | rfl | rfl | rfl | rfl <;> exact ⟨_, rfl, by simp⟩
  obtain ⟨d2, js2, e2, a2, b2, j2⟩ := pull_ex (sl := [.ref 0, .dat (dT ps), .dat (.str w), .un, .un, .un]) (X := dC (.int 5)) (rest := []) rfl rfl j1 (by omega) (by decide) (by decide)
  have hsh : atI ([.int 0, .int 1, .int 2, .int 3, .int 4] : List D) d2 = some (.int d2) := by
    have : d2 = 0 ∨ d2 = 1 ∨ d2 = 2 ∨ d2 = 3 ∨ d2 = 4 := by omega
    rcases this with rfl | rfl | rfl | rfl | rfl <;> rfl
  have h5 : 5 ≤ LIM := by decide
  have st1 : ∀ q : DS, dSeq (dSet 2 (dOp idxD (dLst (dCons (dC (.str "only")) (dCons (dC (.str "lift")) (dCons (dC (.str "swap")) (dCons (dC (.str "head")) (dCons (dC (.str "pad")) (dNil))))))) (dFnJ run__law_pull (dCons (dVar 0) (dCons (dC (.int 5)) (dNil)))))) q [.ref 0, .dat (dT ps), .un, .un, .un, .un] [js] = q [.ref 0, .dat (dT ps), .dat (.str w), .un, .un, .un] [js1] := by
    intro q
    have eL : dLst (dCons (dC (.str "only")) (dCons (dC (.str "lift")) (dCons (dC (.str "swap")) (dCons (dC (.str "head")) (dCons (dC (.str "pad")) (dNil)))))) [.ref 0, .dat (dT ps), .un, .un, .un, .un] [js] = some (.tmp [.str "only", .str "lift", .str "swap", .str "head", .str "pad"], [js]) := by simp [h5]
    refine seq_nx ?_
    rw [dSet_ap, dOp_ap, eL, bind_some', opK_ap, e1]
    simp [hw]
  have st2 : ∀ q : DS, dSeq (dSet 3 (dOp idxD (dLst (dCons (dC (.int 0)) (dCons (dC (.int 1)) (dCons (dC (.int 2)) (dCons (dC (.int 3)) (dCons (dC (.int 4)) (dNil))))))) (dFnJ run__law_pull (dCons (dVar 0) (dCons (dC (.int 5)) (dNil)))))) q [.ref 0, .dat (dT ps), .dat (.str w), .un, .un, .un] [js1] = q [.ref 0, .dat (dT ps), .dat (.str w), .dat (.int d2), .un, .un] [js2] := by
    intro q
    have eL : dLst (dCons (dC (.int 0)) (dCons (dC (.int 1)) (dCons (dC (.int 2)) (dCons (dC (.int 3)) (dCons (dC (.int 4)) (dNil)))))) [.ref 0, .dat (dT ps), .dat (.str w), .un, .un, .un] [js1] = some (.tmp [.int 0, .int 1, .int 2, .int 3, .int 4], [js1]) := by simp [h5]
    refine seq_nx ?_
    rw [dSet_ap, dOp_ap, eL, bind_some', opK_ap, e2]
    simp [hsh]
  unfold d__law_some_door
  rw [st1, st2]
  have h2L : 2 ≤ LIM := by decide
  by_cases hhp : w = "head" ∨ w = "pad"
  · obtain ⟨r, hr, hr0, hr1⟩ : ∃ r : Int, atI ([.int 0, .int 1, .int 3, .int 6, .int 39] : List D) d2 = some (.int r) ∧ 0 ≤ r ∧ r ≤ 40 := by
      have : d2 = 0 ∨ d2 = 1 ∨ d2 = 2 ∨ d2 = 3 ∨ d2 = 4 := by omega
      rcases this with rfl | rfl | rfl | rfl | rfl <;> exact ⟨_, rfl, by decide, by decide⟩
    obtain ⟨ws, js3, e3, hw3, hl3, j3⟩ := r_some_asksR j2 (by omega) ps hp r hr0 hr1
    refine ⟨.g1 w ws, js3, Rt_seq1 ?_, ⟨hw3, hl3, .inr hhp⟩, j3.mono (by omega)⟩
    have n1 : ¬ (("pad" : Str) = "head") := by decide +kernel
    have et : dOrT (dTst (dOp eqO (dVar 2) (dC (.str "head")))) (dTst (dOp eqO (dVar 2) (dC (.str "pad")))) [.ref 0, .dat (dT ps), .dat (.str w), .dat (.int d2), .un, .un] [js2] = some (true, [js2]) := by
      rcases hhp with rfl | rfl <;> simp [n1]
    rw [dIf_ap, et]
    simp [h5, hr, e3, h2L, gD]
  · have nh : w ≠ "head" := fun z => hhp (.inl z)
    have np : w ≠ "pad" := fun z => hhp (.inr z)
    obtain ⟨ws, js3, e3, ⟨u1, u2, u3⟩, j3⟩ := some_spots (w2 := .dat (.str w)) (s4 := .un) (share := d2) ps (ps.length + 1) 0 0 (n + 1 + 1) .un js2 j2 (by omega) (by omega)
    have hr := fun io => rng1K_ap (io := io) (j := (ps.length : Int) + 1) (n := ps.length + 1) (by omega) (by omega)
    have hww : ∀ x ∈ ws, x < ps.length + 1 := fun x hx => by have := u2 x hx; omega
    have st3 : dIf (dOrT (dTst (dOp eqO (dVar 2) (dC (.str "head")))) (dTst (dOp eqO (dVar 2) (dC (.str "pad"))))) (dRet (dTup (dCons (dVar 2) (dCons (dFnJ run__law_some_asks (dCons (dVar 0) (dCons (dVar 1) (dCons (dOp idxD (dLst (dCons (dC (.int 0)) (dCons (dC (.int 1)) (dCons (dC (.int 3)) (dCons (dC (.int 6)) (dCons (dC (.int 39)) (dNil))))))) (dVar 3)) (dNil))))) (dNil))))) (dNext) [.ref 0, .dat (dT ps), .dat (.str w), .dat (.int d2), .un, .un] [js2] = some (.nx [.ref 0, .dat (dT ps), .dat (.str w), .dat (.int d2), .un, .un] [js2]) := by
      simp [nh, np]
    rw [seq_nx st3]
    have e3' : lcGo none (.one 5) (dTst (dOp ltD (dFnJ run__law_pull (dCons (dVar 0) (dCons (dC (.int 4)) (dNil)))) (dVar 3))) (dVar 5) [.ref 0, .dat (dT ps), .dat (.str w), .dat (.int d2), .un, .un] (rngItems 0 (ps.length + 1)) 0 [js2] = some (ws.map nD, [js3]) := e3
    have st4 : dSet 4 (dLc (dItR1 (dCons (dCall lenD (dCons (dVar 1) (dNil))) (dNil))) (.one 5) (dTst (dOp ltD (dFnJ run__law_pull (dCons (dVar 0) (dCons (dC (.int 4)) (dNil)))) (dVar 3))) (dVar 5) [5]) [.ref 0, .dat (dT ps), .dat (.str w), .dat (.int d2), .un, .un] [js2] = some (.nx [.ref 0, .dat (dT ps), .dat (.str w), .dat (.int d2), .dat (.list (ws.map nD)), .un] [js3]) := by
      simp [-lenD_tup, lenT, hr, e3']
    rw [seq_nx st4]
    by_cases hsw : w = "swap"
    · subst hsw
      obtain ⟨qs, js4, e4, v1, v2, j4⟩ := some_pairs (w2 := .dat (.str "swap")) (s3 := .dat (.int d2)) (s4 := .dat (.list (ws.map nD))) ps hp9 ws 0 _ .un js3 j3 (by omega) (by omega)
      have hql : qs.length = ws.length := by rw [← v1, List.length_map]
      refine ⟨.g2 qs, js4, Rt_seq1 ?_, ⟨fun q hq => ⟨hww q.1 (by rw [← v1]; exact List.mem_map_of_mem hq), v2 q hq⟩, by omega, by rw [v1]; exact u1⟩, j4.mono (by omega)⟩
      generalize ws.map nD = Z at *
      simp [e4, h2L, gD, dP]
    · refine ⟨.g1 w ws, js3, ?_, ⟨⟨hww, by omega⟩, by omega, .inl ⟨?_, u1⟩⟩, j3.mono (by omega)⟩
      · refine Rt_seq (P0 := fun sl io => sl = [.ref 0, .dat (dT ps), .dat (.str w), .dat (.int d2), .dat (.list (ws.map nD)), .un] ∧ io = [js3]) ?_ ?_
        · simp [hsw]
        rintro sl io ⟨rfl, rfl⟩
        simp [h2L, gD, dW]
      · simp at hw'
        rcases hw' with h | h | h | h | h
        · exact .inl h
        · exact .inr h
        · exact absurd h hsw
        · exact absurd h nh
        · exact absurd h np
theorem cut_ints (ns : List Int) (n : Nat) : cutD (ns.map .int) none (some (n : Int)) = (ns.take n).map .int := by
  unfold cutD
  rw [HT.sIx_none, HT.sIx_nat, List.drop_zero, List.length_map, Nat.sub_zero, ← List.map_take]
  congr 1
  rcases Nat.le_total n ns.length with h | h
  · rw [Nat.min_eq_left h]
  · rw [Nat.min_eq_right h, List.take_of_length_le (Nat.le_refl _), List.take_of_length_le h]
def lawIn : DS := dSeq (dSet 5 (dFnJ run__law_some_door (dCons (dVar 2) (dCons (dVar 3) (dNil))))) (dSeq (dSet 6 (dFn run__law_door_words (dCons (dVar 5) (dNil)))) (dIf (dOrT (dNotT (dTru (dFn run__law_same (dCons (dFn run_write_door (dCons (dVar 3) (dCons (dVar 5) (dNil)))) (dCons (dVar 6) (dNil)))))) (dNotT (dTru (dFn run__law_same (dCons (dFn run_read_door (dCons (dVar 3) (dCons (dVar 6) (dNil)))) (dCons (dVar 5) (dNil))))))) (dRet (dC (.bool false))) (dNext)))
def lawB : DS := dSeq (dOwn 2 (dFn run__law_fill (dCons (dVar 1) (dNil)))) (dSeq (dSet 3 (dFnJ run__law_some_world (dCons (dVar 2) (dCons (dC (.int 10)) (dNil))))) (dSeq (dFor (dItR1 (dCons (dC (.int 3)) (dNil))) (.one 4) lawIn) (dIf (dOrT (dTst (dOp neO (dFn run_write_door (dFlip (dCons (dVar 5) (dCons (dVar 3) (dNil))))) (dVar 6))) (dTst (dOp isntB (dFn run_is_door (dCons (dVar 3) (dCons (dFn run_read_door (dFlip (dCons (dVar 6) (dCons (dVar 3) (dNil))))) (dNil)))) (dC (.bool true))))) (dRet (dC (.bool false))) (dNext))))
theorem law_turn (ns : List Int) (cell : Int) (s2 s3 s4 s5 s6 : S) (io : IO) : Nx (lawB [.scr ns, .dat (.int cell), s2, s3, s4, s5, s6] io) fun sl _ => ∃ s1 s2 s3 s4 s5 s6, sl = [.scr ns, s1, s2, s3, s4, s5, s6] := by
  obtain ⟨js, e1, j1⟩ := r_fill cell
  obtain ⟨ps, js2, e2, hp, j2⟩ := r_some_world j1 (by omega)
  have hja : imAll js = true := by obtain ⟨a, b, c, rfl, _⟩ := j1; rfl
  unfold lawB
  refine Nx_seq (P0 := fun sl io' => sl = [.scr ns, .dat (.int cell), .ref io.length, s3, s4, s5, s6] ∧ io' = io ++ [js]) ?_ ?_
  · simp [e1, hja]
  rintro sl io' ⟨rfl, rfl⟩
  refine Nx_seq (P0 := fun sl io' => sl = [.scr ns, .dat (.int cell), .ref io.length, .dat (dT ps), s4, s5, s6] ∧ io' = io ++ [js2]) ?_ ?_
  · simp [e2]
  rintro sl io' ⟨rfl, rfl⟩
  have hr := fun io => rng1K_ap (io := io) (j := (3 : Int)) (n := 3) rfl (by omega)
  have hlen : (rngItems 0 3).length = 3 := rfl
  have key := Nx_for (items := rngItems 0 3) (c := none) (io1 := io ++ [js2]) (it := dItR1 (dCons (dC (.int 3)) (dNil))) (tg := .one 4) (body := lawIn) (sl := [.scr ns, .dat (.int cell), .ref io.length, .dat (dT ps), s4, s5, s6]) (io := io ++ [js2])
    (fun i sl io' => ∃ s4 s5 s6 js', sl = [.scr ns, .dat (.int cell), .ref io.length, .dat (dT ps), s4, s5, s6] ∧ io' = io ++ [js'] ∧ JarOk (20 + 190 * i) js' ∧ (0 < i → ∃ g, GOk ps g ∧ s5 = .dat (gD g) ∧ s6 = .dat (.str (gText g))))
    (by simp [hr]) ⟨_, _, _, js2, rfl, rfl, j2, fun z => absurd z (Nat.lt_irrefl 0)⟩ (by
      rintro i d sl io' hi ⟨s4, s5, s6, js', rfl, rfl, hj, _⟩
      obtain ⟨hil, rfl⟩ := rngItems_get hi
      obtain ⟨g, js3, e3, hg, j3⟩ := r_some_door hj (by omega) ps hp
      refine ⟨rfl, ?_⟩
      have e : tgGo (.one 4) (.int (0 + (i : Nat))) [.scr ns, .dat (.int cell), .ref io.length, .dat (dT ps), s4, s5, s6] = some [.scr ns, .dat (.int cell), .ref io.length, .dat (dT ps), .dat (nD i), s5, s6] := by rw [Int.zero_add]; rfl
      rw [e, bind_some']
      unfold lawIn
      refine Nx_seq (P0 := fun sl io' => sl = [.scr ns, .dat (.int cell), .ref io.length, .dat (dT ps), .dat (nD i), .dat (gD g), s6] ∧ io' = io ++ [js3]) ?_ ?_
      · simp [e3]
      rintro sl io' ⟨rfl, rfl⟩
      refine Nx_seq (P0 := fun sl io' => sl = [.scr ns, .dat (.int cell), .ref io.length, .dat (dT ps), .dat (nD i), .dat (gD g), .dat (.str (gText g))] ∧ io' = io ++ [js3]) ?_ ?_
      · simp [r_door_words ps hp g hg]
      rintro sl io' ⟨rfl, rfl⟩
      have ev : (dIf (dOrT (dNotT (dTru (dFn run__law_same (dCons (dFn run_write_door (dCons (dVar 3) (dCons (dVar 5) (dNil)))) (dCons (dVar 6) (dNil)))))) (dNotT (dTru (dFn run__law_same (dCons (dFn run_read_door (dCons (dVar 3) (dCons (dVar 6) (dNil)))) (dCons (dVar 5) (dNil))))))) (dRet (dC (.bool false))) (dNext)) [.scr ns, .dat (.int cell), .ref io.length, .dat (dT ps), .dat (nD i), .dat (gD g), .dat (.str (gText g))] (io ++ [js3]) = some (.nx [.scr ns, .dat (.int cell), .ref io.length, .dat (dT ps), .dat (nD i), .dat (gD g), .dat (.str (gText g))] (io ++ [js3])) := by
        simp [r_write_door ps hp g hg, r_same (gText_Small hp hg), r_read_door ps hp g hg, r_same (gD_small hp hg)]
      exact ⟨_, _, ev, _, _, _, js3, rfl, rfl, j3.mono (by omega), fun _ => ⟨g, hg, rfl, rfl⟩⟩) (fun _ _ _ => rfl)
  rw [hlen] at key
  refine Nx_seq key ?_
  rintro sl io' ⟨s4, s5, s6, js', rfl, rfl, _, hgg⟩
  obtain ⟨g, hg, rfl, rfl⟩ := hgg (by omega)
  generalize io ++ [js'] = io4
  simp [flip2, r_write_door ps hp g hg, r_read_door ps hp g hg, r_is_door ps hp g hg, isntB, blA]
theorem law_true (ns : List Int) (h : ns.length ≤ 63) : run_law ns = some true := by
  refine runLaw_rt ?_
  unfold d_law
  have e1 : powD (.int 107) (.int 30) = some (.dat (.int (107 ^ 30))) := by rw [powD_int, if_pos (by decide)]; rfl
  have e2 : cutD (ns.map .int) none (some (30 : Int)) = (ns.take 30).map .int := cut_ints ns 30
  have e3 : addD (.list [.int (107 ^ 30 + 9)]) (.list ((ns.take 30).map .int)) = some (.tmp (((107 ^ 30 + 9) :: ns.take 30).map PyData.int)) := by
    rw [addD_lst, if_pos (by rw [List.length_map, List.length_take]; show 1 + _ ≤ _; unfold LIM; omega)]; rfl
  generalize hz : (107 : Int) ^ 30 = z at *
  have hit : dItS (dOp addD (dLst (dCons (dOp addD (dOp powD (dC (.int 107)) (dC (.int 30))) (dC (.int 9))) (dNil))) (dScr 0 (dNo) (dPart (dC (.int 30))))) (slots 7 [.scr ns]) [] = some ((((z + 9) :: ns.take 30).map PyData.int, none), []) := by
    simp [slots, -powD_int, e1, show 1 ≤ LIM by decide, e2, -addD_lst, e3, -List.map_take, -List.map_cons]
  refine Rt_seq (Nx_for (items := ((z + 9) :: ns.take 30).map PyData.int) (c := none) (io1 := []) (fun _ sl _ => ∃ s1 s2 s3 s4 s5 s6, sl = [.scr ns, s1, s2, s3, s4, s5, s6]) hit ⟨_, _, _, _, _, _, rfl⟩ ?_ fun _ _ _ => rfl) ?_
  · rintro i d sl io hi ⟨s1, s2, s3, s4, s5, s6, rfl⟩
    rw [List.getElem?_map, Option.map_eq_some_iff] at hi
    obtain ⟨cell, _, rfl⟩ := hi
    exact ⟨rfl, law_turn ns cell s2 s3 s4 s5 s6 io⟩
  rintro sl io -
  simp
end K74

set_option Elab.async false
set_option linter.all false
set_option maxRecDepth 100000
set_option maxHeartbeats 4000000
namespace K74
open PySem PySem.Spec PyProof.Rows L2 DD
def topS (i : Nat) : Stmt := PySem.Challenge.pw_wishedtongues_k74_doors_as_words.main.body.getD i (.Pass ⟨0, 0, 0, 0⟩)
abbrev s_is_integer : Stmt := topS 6
abbrev s_is_tree : Stmt := topS 7
abbrev s_need_tree : Stmt := topS 8
abbrev s_locale_there : Stmt := topS 9
abbrev s_wishes_there : Stmt := topS 10
abbrev s_is_wishes : Stmt := topS 11
abbrev s_is_spot : Stmt := topS 13
abbrev s_is_spots : Stmt := topS 14
abbrev s_is_swaps : Stmt := topS 15
abbrev s_door_fits : Stmt := topS 16
abbrev s_is_door : Stmt := topS 17
abbrev s_locales_written : Stmt := topS 20
abbrev s_locale_read : Stmt := topS 21
abbrev s_none_written : Stmt := topS 22
abbrev s_locales_read : Stmt := topS 23
abbrev s_pairs_read : Stmt := topS 24
abbrev s_write_door : Stmt := topS 25
abbrev s_read_door : Stmt := topS 26
abbrev s__law_fill : Stmt := topS 28
abbrev s__law_pull : Stmt := topS 29
abbrev s__law_some_world : Stmt := topS 30
abbrev s__law_up : Stmt := topS 31
abbrev s__law_some_asks : Stmt := topS 32
abbrev s__law_some_door : Stmt := topS 33
abbrev s__law_letters : Stmt := topS 34
abbrev s__law_door_words : Stmt := topS 35
abbrev s__law_same : Stmt := topS 36
abbrev s_law : Stmt := topS 37
/-- where all stands -/
structure Tx (K : PySem.W.Frag) (mg : Str → Option Value) where
  f_is_integer : Addr
  fd_is_integer : FuncData
  F_is_integer : Fun K "is_integer" "is_integer" s_is_integer f_is_integer fd_is_integer
  g_is_integer : mg "is_integer" = some (.ref f_is_integer)
  b_is_integer : Binds K fd_is_integer ["value"] []
  f_is_tree : Addr
  fd_is_tree : FuncData
  F_is_tree : Fun K "is_tree" "is_tree" s_is_tree f_is_tree fd_is_tree
  g_is_tree : mg "is_tree" = some (.ref f_is_tree)
  b_is_tree : Binds K fd_is_tree ["value"] []
  f_need_tree : Addr
  fd_need_tree : FuncData
  F_need_tree : Fun K "need_tree" "need_tree" s_need_tree f_need_tree fd_need_tree
  g_need_tree : mg "need_tree" = some (.ref f_need_tree)
  b_need_tree : Binds K fd_need_tree ["tree"] []
  f_locale_there : Addr
  fd_locale_there : FuncData
  F_locale_there : Fun K "locale_there" "locale_there" s_locale_there f_locale_there fd_locale_there
  g_locale_there : mg "locale_there" = some (.ref f_locale_there)
  b_locale_there : Binds K fd_locale_there ["tree", "value"] []
  f_wishes_there : Addr
  fd_wishes_there : FuncData
  F_wishes_there : Fun K "wishes_there" "wishes_there" s_wishes_there f_wishes_there fd_wishes_there
  g_wishes_there : mg "wishes_there" = some (.ref f_wishes_there)
  b_wishes_there : Binds K fd_wishes_there ["tree", "value"] []
  f_is_wishes : Addr
  fd_is_wishes : FuncData
  F_is_wishes : Fun K "is_wishes" "is_wishes" s_is_wishes f_is_wishes fd_is_wishes
  g_is_wishes : mg "is_wishes" = some (.ref f_is_wishes)
  b_is_wishes : Binds K fd_is_wishes ["tree", "value"] []
  f_is_spot : Addr
  fd_is_spot : FuncData
  F_is_spot : Fun K "is_spot" "is_spot" s_is_spot f_is_spot fd_is_spot
  g_is_spot : mg "is_spot" = some (.ref f_is_spot)
  b_is_spot : Binds K fd_is_spot ["tree", "value"] []
  f_is_spots : Addr
  fd_is_spots : FuncData
  F_is_spots : Fun K "is_spots" "is_spots" s_is_spots f_is_spots fd_is_spots
  g_is_spots : mg "is_spots" = some (.ref f_is_spots)
  b_is_spots : Binds K fd_is_spots ["tree", "value"] []
  f_is_swaps : Addr
  fd_is_swaps : FuncData
  F_is_swaps : Fun K "is_swaps" "is_swaps" s_is_swaps f_is_swaps fd_is_swaps
  g_is_swaps : mg "is_swaps" = some (.ref f_is_swaps)
  b_is_swaps : Binds K fd_is_swaps ["tree", "value"] []
  f_door_fits : Addr
  fd_door_fits : FuncData
  F_door_fits : Fun K "door_fits" "door_fits" s_door_fits f_door_fits fd_door_fits
  g_door_fits : mg "door_fits" = some (.ref f_door_fits)
  b_door_fits : Binds K fd_door_fits ["tree", "value"] []
  f_is_door : Addr
  fd_is_door : FuncData
  F_is_door : Fun K "is_door" "is_door" s_is_door f_is_door fd_is_door
  g_is_door : mg "is_door" = some (.ref f_is_door)
  b_is_door : Binds K fd_is_door ["tree", "value"] []
  f_locales_written : Addr
  fd_locales_written : FuncData
  F_locales_written : Fun K "locales_written" "locales_written" s_locales_written f_locales_written fd_locales_written
  g_locales_written : mg "locales_written" = some (.ref f_locales_written)
  b_locales_written : Binds K fd_locales_written ["locales"] []
  f_locale_read : Addr
  fd_locale_read : FuncData
  F_locale_read : Fun K "locale_read" "locale_read" s_locale_read f_locale_read fd_locale_read
  g_locale_read : mg "locale_read" = some (.ref f_locale_read)
  b_locale_read : Binds K fd_locale_read ["word", "count"] []
  f_none_written : Addr
  fd_none_written : FuncData
  F_none_written : Fun K "none_written" "none_written" s_none_written f_none_written fd_none_written
  g_none_written : mg "none_written" = some (.ref f_none_written)
  b_none_written : Binds K fd_none_written ["parts", "first"] []
  f_locales_read : Addr
  fd_locales_read : FuncData
  F_locales_read : Fun K "locales_read" "locales_read" s_locales_read f_locales_read fd_locales_read
  g_locales_read : mg "locales_read" = some (.ref f_locales_read)
  b_locales_read : Binds K fd_locales_read ["parts", "first", "count", "rising"] []
  f_pairs_read : Addr
  fd_pairs_read : FuncData
  F_pairs_read : Fun K "pairs_read" "pairs_read" s_pairs_read f_pairs_read fd_pairs_read
  g_pairs_read : mg "pairs_read" = some (.ref f_pairs_read)
  b_pairs_read : Binds K fd_pairs_read ["parts", "first", "count"] []
  f_write_door : Addr
  fd_write_door : FuncData
  F_write_door : Fun K "write_door" "write_door" s_write_door f_write_door fd_write_door
  g_write_door : mg "write_door" = some (.ref f_write_door)
  b_write_door : Binds K fd_write_door ["tree", "door"] []
  f_read_door : Addr
  fd_read_door : FuncData
  F_read_door : Fun K "read_door" "read_door" s_read_door f_read_door fd_read_door
  g_read_door : mg "read_door" = some (.ref f_read_door)
  b_read_door : Binds K fd_read_door ["tree", "words"] []
  f__law_fill : Addr
  fd__law_fill : FuncData
  F__law_fill : Fun K "_law_fill" "_law_fill" s__law_fill f__law_fill fd__law_fill
  g__law_fill : mg "_law_fill" = some (.ref f__law_fill)
  b__law_fill : Binds K fd__law_fill ["cell"] []
  f__law_pull : Addr
  fd__law_pull : FuncData
  F__law_pull : Fun K "_law_pull" "_law_pull" s__law_pull f__law_pull fd__law_pull
  g__law_pull : mg "_law_pull" = some (.ref f__law_pull)
  b__law_pull : Binds K fd__law_pull ["jar", "size"] []
  f__law_some_world : Addr
  fd__law_some_world : FuncData
  F__law_some_world : Fun K "_law_some_world" "_law_some_world" s__law_some_world f__law_some_world fd__law_some_world
  g__law_some_world : mg "_law_some_world" = some (.ref f__law_some_world)
  b__law_some_world : Binds K fd__law_some_world ["jar", "reach"] []
  f__law_up : Addr
  fd__law_up : FuncData
  F__law_up : Fun K "_law_up" "_law_up" s__law_up f__law_up fd__law_up
  g__law_up : mg "_law_up" = some (.ref f__law_up)
  b__law_up : Binds K fd__law_up ["world", "spot"] []
  f__law_some_asks : Addr
  fd__law_some_asks : FuncData
  F__law_some_asks : Fun K "_law_some_asks" "_law_some_asks" s__law_some_asks f__law_some_asks fd__law_some_asks
  g__law_some_asks : mg "_law_some_asks" = some (.ref f__law_some_asks)
  b__law_some_asks : Binds K fd__law_some_asks ["jar", "world", "reach"] []
  f__law_some_door : Addr
  fd__law_some_door : FuncData
  F__law_some_door : Fun K "_law_some_door" "_law_some_door" s__law_some_door f__law_some_door fd__law_some_door
  g__law_some_door : mg "_law_some_door" = some (.ref f__law_some_door)
  b__law_some_door : Binds K fd__law_some_door ["jar", "world"] []
  f__law_letters : Addr
  fd__law_letters : FuncData
  F__law_letters : Fun K "_law_letters" "_law_letters" s__law_letters f__law_letters fd__law_letters
  g__law_letters : mg "_law_letters" = some (.ref f__law_letters)
  b__law_letters : Binds K fd__law_letters ["spots"] []
  f__law_door_words : Addr
  fd__law_door_words : FuncData
  F__law_door_words : Fun K "_law_door_words" "_law_door_words" s__law_door_words f__law_door_words fd__law_door_words
  g__law_door_words : mg "_law_door_words" = some (.ref f__law_door_words)
  b__law_door_words : Binds K fd__law_door_words ["gate"] []
  f__law_same : Addr
  fd__law_same : FuncData
  F__law_same : Fun K "_law_same" "_law_same" s__law_same f__law_same fd__law_same
  g__law_same : mg "_law_same" = some (.ref f__law_same)
  b__law_same : Binds K fd__law_same ["told", "due"] []
  f_law : Addr
  fd_law : FuncData
  F_law : Fun K "law" "law" s_law f_law fd_law
  g_law : mg "law" = some (.ref f_law)
  b_law : Binds K fd_law ["script"] []
  kb_read_door_words_tree : KBinds K fd_read_door ["tree", "words"] ["words", "tree"] kw2 kw2
  kb_write_door_door_tree : KBinds K fd_write_door ["tree", "door"] ["door", "tree"] kw2 kw2
  m_bool : mg "bool" = none
  m_enumerate : mg "enumerate" = none
  m_int : mg "int" = none
  m_isinstance : mg "isinstance" = none
  m_len : mg "len" = none
  m_list : mg "list" = none
  m_max : mg "max" = none
  m_min : mg "min" = none
  m_range : mg "range" = none
  m_repr : mg "repr" = none
  m_str : mg "str" = none
  m_tuple : mg "tuple" = none
  t_LETTERS : Tok
  c_LETTERS : mg "LETTERS" = some (.str "abcdefghij" t_LETTERS)
section
variable {P : Program} {w : World} {K : PySem.W.Frag} {mg : Str → Option Value} {base : Heap}
abbrev N_is_integer : List Str := ["value"]
theorem sc_is_integer : FnScope N_is_integer ["value"] (defScope s_is_integer) := ⟨rfl, rfl, rfl, by decide +kernel, rfl, by decide +kernel, by decide +kernel⟩
theorem ok_is_integer (T : Tx K mg) : FnOk P w K mg base CX0 1 T.f_is_integer T.fd_is_integer ["value"] (spD K run_is_integer) :=
  okD T.F_is_integer sc_is_integer rfl (fun cdv A outer s H E hr =>
    pds_one (pds_ret (pd_andV (pd_isi (by rfl) T.m_isinstance (by rfl) T.m_int (by decide +kernel) (pd_var (pv 0))) (pe_one (pd_notV (pd_isi (by rfl) T.m_isinstance (by rfl) T.m_bool (by decide +kernel) (pd_var (pv 0))))))))
abbrev N_is_tree : List Str := ["value", "index"]
theorem sc_is_tree : FnScope N_is_tree ["value"] (defScope s_is_tree) := ⟨rfl, rfl, rfl, by decide +kernel, rfl, by decide +kernel, by decide +kernel⟩
theorem ok_is_tree (T : Tx K mg) : FnOk P w K mg base CX0 2 T.f_is_tree T.fd_is_tree ["value"] (spD K run_is_tree) :=
  okD T.F_is_tree sc_is_tree rfl (fun cdv A outer s H E hr =>
    pds_cons (pds_if (PW.pt (pd_or (pd_notT (pd_tru (pd_isi (by rfl) T.m_isinstance (by rfl) T.m_tuple (by decide +kernel) (pd_var (pv 0))))) (pd_or (pd_notT (pd_chainT op_leD op_leD (pd_int) (pd_callB call_lenD (by rfl) T.m_len PySem.boot_len (pda_cons (pd_var (pv 0)) (pda_nil))) (pd_int))) (pw_or1 (pd_cmpT op_isntD (pd_ix (pd_var (pv 0)) (pd_int)) (pd_non) (nomark _)))))) (pds_one (pds_ret (pd_bl))) (pds_nil)) (pds_cons (pds_for (tg := .one 1) PassesOwn.never rfl (pdi_rng2 (by rfl) T.m_range (pda_cons (pd_int) (pda_cons (pd_callB call_lenD (by rfl) T.m_len PySem.boot_len (pda_cons (pd_var (pv 0)) (pda_nil))) (pda_nil)))) (pg_name (i := 1) sc_is_tree.nd rfl (Or.inl rfl)) (pds_one (pds_if (PW.pt (pd_or (pd_notT (pd_tru (pd_fn (ok_is_integer T) (hr.mono (by decide)) (by rfl) T.g_is_integer T.F_is_integer.kp T.b_is_integer pass0 (pda_cons (pd_ix (pd_var (pv 0)) (pd_var (pv 1))) (pda_nil))))) (pw_or1 (pd_notT (pd_chainT op_leD op_ltD (pd_int) (pd_ix (pd_var (pv 0)) (pd_var (pv 1))) (pd_var (pv 1))))))) (pds_one (pds_ret (pd_bl))) (pds_nil)))) (pds_one (pds_ret (pd_bl)))))
abbrev N_need_tree : List Str := ["tree"]
theorem sc_need_tree : FnScope N_need_tree ["tree"] (defScope s_need_tree) := ⟨rfl, rfl, rfl, by decide +kernel, rfl, by decide +kernel, by decide +kernel⟩
theorem ok_need_tree (T : Tx K mg) : FnOk P w K mg base CX0 3 T.f_need_tree T.fd_need_tree ["tree"] (spD K run_need_tree) :=
  okD T.F_need_tree sc_need_tree rfl (fun cdv A outer s H E hr =>
    pds_one (pds_if (pd_notT (pd_tru (pd_fn (ok_is_tree T) (hr.mono (by decide)) (by rfl) T.g_is_tree T.F_is_tree.kp T.b_is_tree pass0 (pda_cons (pd_var (pv 0)) (pda_nil))))) (pds_one (pds_stuck)) (pds_nil)))
abbrev N_locale_there : List Str := ["tree", "value"]
theorem sc_locale_there : FnScope N_locale_there ["tree", "value"] (defScope s_locale_there) := ⟨rfl, rfl, rfl, by decide +kernel, rfl, by decide +kernel, by decide +kernel⟩
theorem ok_locale_there (T : Tx K mg) : FnOk P w K mg base CX0 2 T.f_locale_there T.fd_locale_there ["tree", "value"] (spD K run_locale_there) :=
  okD T.F_locale_there sc_locale_there rfl (fun cdv A outer s H E hr =>
    pds_one (pds_ret (pd_andV (pd_fn (ok_is_integer T) (hr.mono (by decide)) (by rfl) T.g_is_integer T.F_is_integer.kp T.b_is_integer pass0 (pda_cons (pd_var (pv 1)) (pda_nil))) (pe_one (pd_chain op_leD op_ltD (pd_int) (pd_var (pv 1)) (pd_callB call_lenD (by rfl) T.m_len PySem.boot_len (pda_cons (pd_var (pv 0)) (pda_nil))))))))
abbrev N_wishes_there : List Str := ["tree", "value", "wish"]
theorem sc_wishes_there : FnScope N_wishes_there ["tree", "value"] (defScope s_wishes_there) := ⟨rfl, rfl, rfl, by decide +kernel, rfl, by decide +kernel, by decide +kernel⟩
theorem ok_wishes_there (T : Tx K mg) : FnOk P w K mg base CX0 3 T.f_wishes_there T.fd_wishes_there ["tree", "value"] (spD K run_wishes_there) :=
  okD T.F_wishes_there sc_wishes_there rfl (fun cdv A outer s H E hr =>
    pds_cons (pds_if (pd_notT (pd_tru (pd_isi (by rfl) T.m_isinstance (by rfl) T.m_tuple (by decide +kernel) (pd_var (pv 1))))) (pds_one (pds_ret (pd_bl))) (pds_nil)) (pds_cons (pds_for (tg := .one 2) PassesOwn.never rfl (pdi_seq (pd_var (pv 1))) (pg_name (i := 2) sc_wishes_there.nd rfl (Or.inl rfl)) (pds_one (pds_if (pd_notT (pd_tru (pd_fn (ok_locale_there T) (hr.mono (by decide)) (by rfl) T.g_locale_there T.F_locale_there.kp T.b_locale_there pass0 (pda_cons (pd_var (pv 0)) (pda_cons (pd_var (pv 2)) (pda_nil)))))) (pds_one (pds_ret (pd_bl))) (pds_nil)))) (pds_one (pds_ret (pd_bl)))))
abbrev N_is_wishes : List Str := ["tree", "value"]
theorem sc_is_wishes : FnScope N_is_wishes ["tree", "value"] (defScope s_is_wishes) := ⟨rfl, rfl, rfl, by decide +kernel, rfl, by decide +kernel, by decide +kernel⟩
theorem ok_is_wishes (T : Tx K mg) : FnOk P w K mg base CX0 4 T.f_is_wishes T.fd_is_wishes ["tree", "value"] (spD K run_is_wishes) :=
  okD T.F_is_wishes sc_is_wishes rfl (fun cdv A outer s H E hr =>
    pds_cons (pds_drop (pd_fn (ok_need_tree T) (hr.mono (by decide)) (by rfl) T.g_need_tree T.F_need_tree.kp T.b_need_tree pass0 (pda_cons (pd_var (pv 0)) (pda_nil)))) (pds_one (pds_ret (pd_fn (ok_wishes_there T) (hr.mono (by decide)) (by rfl) T.g_wishes_there T.F_wishes_there.kp T.b_wishes_there pass0 (pda_cons (pd_var (pv 0)) (pda_cons (pd_var (pv 1)) (pda_nil)))))))
abbrev N_is_spot : List Str := ["tree", "value"]
theorem sc_is_spot : FnScope N_is_spot ["tree", "value"] (defScope s_is_spot) := ⟨rfl, rfl, rfl, by decide +kernel, rfl, by decide +kernel, by decide +kernel⟩
theorem ok_is_spot (T : Tx K mg) : FnOk P w K mg base CX0 1 T.f_is_spot T.fd_is_spot ["tree", "value"] (spD K run_is_spot) :=
  okD T.F_is_spot sc_is_spot rfl (fun cdv A outer s H E hr =>
    pds_one (pds_ret (pd_andV (pd_isi (by rfl) T.m_isinstance (by rfl) T.m_int (by decide +kernel) (pd_var (pv 1))) (pd_andV (pd_notV (pd_isi (by rfl) T.m_isinstance (by rfl) T.m_bool (by decide +kernel) (pd_var (pv 1)))) (pe_one (pd_chain op_leD op_ltD (pd_int) (pd_var (pv 1)) (pd_callB call_lenD (by rfl) T.m_len PySem.boot_len (pda_cons (pd_var (pv 0)) (pda_nil)))))))))
abbrev N_is_spots : List Str := ["tree", "value", "at", "spot"]
theorem sc_is_spots : FnScope N_is_spots ["tree", "value"] (defScope s_is_spots) := ⟨rfl, rfl, rfl, by decide +kernel, rfl, by decide +kernel, by decide +kernel⟩
theorem ok_is_spots (T : Tx K mg) : FnOk P w K mg base CX0 2 T.f_is_spots T.fd_is_spots ["tree", "value"] (spD K run_is_spots) :=
  okD T.F_is_spots sc_is_spots rfl (fun cdv A outer s H E hr =>
    pds_cons (pds_if (pd_notT (pd_tru (pd_isi (by rfl) T.m_isinstance (by rfl) T.m_tuple (by decide +kernel) (pd_var (pv 1))))) (pds_one (pds_ret (pd_bl))) (pds_nil)) (pds_cons (pds_for (tg := .many [2, 3]) PassesOwn.never rfl (pdi_enum (by rfl) T.m_enumerate (pda_cons (pd_var (pv 1)) (pda_nil))) (pg_tup rfl (pgs_cons (pg_name (i := 2) sc_is_spots.nd rfl (Or.inl rfl)) (pgs_cons (pg_name (i := 3) sc_is_spots.nd rfl (Or.inl rfl)) (pgs_nil)))) (pds_cons (pds_if (pd_notT (pd_tru (pd_fn (ok_is_spot T) (hr.mono (by decide)) (by rfl) T.g_is_spot T.F_is_spot.kp T.b_is_spot pass0 (pda_cons (pd_var (pv 0)) (pda_cons (pd_var (pv 3)) (pda_nil)))))) (pds_one (pds_ret (pd_bl))) (pds_nil)) (pds_one (pds_if (PW.pt (pd_and (pd_cmpT op_gtD (pd_var (pv 2)) (pd_int) (nomark _)) (pw_and1 (pd_cmpT op_leD (pd_var (pv 3)) (pd_ix (pd_var (pv 1)) (pd_op op_subD (pd_var (pv 2)) (pd_int))) (nomark _))))) (pds_one (pds_ret (pd_bl))) (pds_nil))))) (pds_one (pds_ret (pd_bl)))))
abbrev N_is_swaps : List Str := ["tree", "value", "firsts", "pair"]
theorem sc_is_swaps : FnScope N_is_swaps ["tree", "value"] (defScope s_is_swaps) := ⟨rfl, rfl, rfl, by decide +kernel, rfl, by decide +kernel, by decide +kernel⟩
theorem ok_is_swaps (T : Tx K mg) : FnOk P w K mg base CX0 3 T.f_is_swaps T.fd_is_swaps ["tree", "value"] (spD K run_is_swaps) :=
  okD T.F_is_swaps sc_is_swaps rfl (fun cdv A outer s H E hr =>
    pds_cons (pds_if (pd_notT (pd_tru (pd_isi (by rfl) T.m_isinstance (by rfl) T.m_tuple (by decide +kernel) (pd_var (pv 1))))) (pds_one (pds_ret (pd_bl))) (pds_nil)) (pds_cons (pds_own (i := 2) (ps_set (i := 2) sc_is_swaps.nd rfl (.inl rfl) (pd_lst (pda_nil)))) (pds_cons (pds_for (tg := .one 3) PassesOwn.never rfl (pdi_seq (pd_var (pv 1))) (pg_name (i := 3) sc_is_swaps.nd rfl (Or.inl rfl)) (pds_cons (pds_if (PW.pt (pd_or (pd_notT (pd_tru (pd_isi (by rfl) T.m_isinstance (by rfl) T.m_tuple (by decide +kernel) (pd_var (pv 3))))) (pw_or1 (pd_cmpT (op_neDD hr.units) (pd_callB call_lenD (by rfl) T.m_len PySem.boot_len (pda_cons (pd_var (pv 3)) (pda_nil))) (pd_int) (nomark _))))) (pds_one (pds_ret (pd_bl))) (pds_nil)) (pds_cons (pds_if (PW.pt (pd_or (pd_notT (pd_tru (pd_fn (ok_is_spot T) (hr.mono (by decide)) (by rfl) T.g_is_spot T.F_is_spot.kp T.b_is_spot pass0 (pda_cons (pd_var (pv 0)) (pda_cons (pd_ix (pd_var (pv 3)) (pd_int)) (pda_nil)))))) (pw_or1 (pd_notT (pd_tru (pd_fn (ok_is_spot T) (hr.mono (by decide)) (by rfl) T.g_is_spot T.F_is_spot.kp T.b_is_spot pass0 (pda_cons (pd_var (pv 0)) (pda_cons (pd_ix (pd_var (pv 3)) (pd_int)) (pda_nil))))))))) (pds_one (pds_ret (pd_bl))) (pds_nil)) (pds_one (pds_app (i := 2) (pv 2) (pd_ix (pd_var (pv 3)) (pd_int))))))) (pds_one (pds_ret (pd_fn (ok_is_spots T) (hr.mono (by decide)) (by rfl) T.g_is_spots T.F_is_spots.kp T.b_is_spots pass0 (pda_cons (pd_var (pv 0)) (pda_cons (pd_callT call_tupleD (by rfl) T.m_tuple (by decide +kernel) (pda_cons (pd_var (pv 2)) (pda_nil))) (pda_nil)))))))))
abbrev N_door_fits : List Str := ["tree", "value", "word", "told"]
theorem sc_door_fits : FnScope N_door_fits ["tree", "value"] (defScope s_door_fits) := ⟨rfl, rfl, rfl, by decide +kernel, rfl, by decide +kernel, by decide +kernel⟩
theorem ok_door_fits (T : Tx K mg) : FnOk P w K mg base CX0 5 T.f_door_fits T.fd_door_fits ["tree", "value"] (spD K run_door_fits) :=
  okD T.F_door_fits sc_door_fits rfl (fun cdv A outer s H E hr =>
    pds_cons (pds_if (PW.pt (pd_or (pd_notT (pd_tru (pd_isi (by rfl) T.m_isinstance (by rfl) T.m_tuple (by decide +kernel) (pd_var (pv 1))))) (pd_or (pd_cmpT (op_neDD hr.units) (pd_callB call_lenD (by rfl) T.m_len PySem.boot_len (pda_cons (pd_var (pv 1)) (pda_nil))) (pd_int) (nomark _)) (pw_or1 (pd_notT (pd_tru (pd_isi (by rfl) T.m_isinstance (by rfl) T.m_str (by decide +kernel) (pd_ix (pd_var (pv 1)) (pd_int))))))))) (pds_one (pds_ret (pd_bl))) (pds_nil)) (pds_cons (pds_unp (t := .many [2, 3]) (pd_var (pv 1)) (pg_tup rfl (pgs_cons (pg_name (i := 2) sc_door_fits.nd rfl (Or.inl rfl)) (pgs_cons (pg_name (i := 3) sc_door_fits.nd rfl (Or.inl rfl)) (pgs_nil))))) (pds_cons (pds_if (PW.pt (pd_or (pd_cmpT (op_eqDD hr.units) (pd_var (pv 2)) (pd_str) (nomark _)) (pw_or1 (pd_cmpT (op_eqDD hr.units) (pd_var (pv 2)) (pd_str) (nomark _))))) (pds_one (pds_ret (pd_fn (ok_is_spots T) (hr.mono (by decide)) (by rfl) T.g_is_spots T.F_is_spots.kp T.b_is_spots pass0 (pda_cons (pd_var (pv 0)) (pda_cons (pd_var (pv 3)) (pda_nil)))))) (pds_nil)) (pds_cons (pds_if (pd_cmpT (op_eqDD hr.units) (pd_var (pv 2)) (pd_str) (nomark _)) (pds_one (pds_ret (pd_fn (ok_is_swaps T) (hr.mono (by decide)) (by rfl) T.g_is_swaps T.F_is_swaps.kp T.b_is_swaps pass0 (pda_cons (pd_var (pv 0)) (pda_cons (pd_var (pv 3)) (pda_nil)))))) (pds_nil)) (pds_one (pds_ret (pd_andV (pd_orV (pd_cmp (op_eqDD hr.units) (pd_var (pv 2)) (pd_str) (nomark _)) (pe_one (pd_cmp (op_eqDD hr.units) (pd_var (pv 2)) (pd_str) (nomark _)))) (pe_one (pd_fn (ok_is_wishes T) (hr.mono (by decide)) (by rfl) T.g_is_wishes T.F_is_wishes.kp T.b_is_wishes pass0 (pda_cons (pd_var (pv 0)) (pda_cons (pd_var (pv 3)) (pda_nil))))))))))))
abbrev N_is_door : List Str := ["tree", "value"]
theorem sc_is_door : FnScope N_is_door ["tree", "value"] (defScope s_is_door) := ⟨rfl, rfl, rfl, by decide +kernel, rfl, by decide +kernel, by decide +kernel⟩
theorem ok_is_door (T : Tx K mg) : FnOk P w K mg base CX0 6 T.f_is_door T.fd_is_door ["tree", "value"] (spD K run_is_door) :=
  okD T.F_is_door sc_is_door rfl (fun cdv A outer s H E hr =>
    pds_cons (pds_drop (pd_fn (ok_need_tree T) (hr.mono (by decide)) (by rfl) T.g_need_tree T.F_need_tree.kp T.b_need_tree pass0 (pda_cons (pd_var (pv 0)) (pda_nil)))) (pds_one (pds_ret (pd_fn (ok_door_fits T) (hr.mono (by decide)) (by rfl) T.g_door_fits T.F_door_fits.kp T.b_door_fits pass0 (pda_cons (pd_var (pv 0)) (pda_cons (pd_var (pv 1)) (pda_nil)))))))
abbrev N_locales_written : List Str := ["locales", "locale"]
theorem sc_locales_written : FnScope N_locales_written ["locales"] (defScope s_locales_written) := ⟨rfl, rfl, rfl, by decide +kernel, rfl, by decide +kernel, by decide +kernel⟩
theorem ok_locales_written (T : Tx K mg) : FnOk P w K mg base CX0 1 T.f_locales_written T.fd_locales_written ["locales"] (spD K run_locales_written) :=
  okD T.F_locales_written sc_locales_written rfl (fun cdv A outer s H E hr =>
    pds_cons (pds_if (pd_cmpT (op_eqDD hr.units) (pd_callB call_lenD (by rfl) T.m_len PySem.boot_len (pda_cons (pd_var (pv 0)) (pda_nil))) (pd_int) (nomark _)) (pds_one (pds_ret (pd_str))) (pds_nil)) (pds_one (pds_ret (pd_meth PySem.F.slot_str_join PySem.F.type_str_join mt_joinD (pd_str) (pda_cons (pd_lc (own := [("locale", 1)]) (tg := .one 1) rfl sc_locales_written.nd (by simp [tgOwn]) (pdi_seq (pd_var (pv 0))) (blkOk_by (N := N_locales_written) (sc := defScope s_locales_written) (own := [("locale", 1)]) (by decide +kernel)) (fun _ _ _ _ _ => pg_name (i := 1) sc_locales_written.nd rfl (Or.inl rfl)) (fun _ _ _ _ _ => pdts_nil) (fun _ _ _ _ _ => pd_ix (pd_c (pe_glob (v := .str "abcdefghij") (by rfl) T.c_LETTERS ⟨_, rfl⟩) (fun _ => .str _)) (pd_var (pv 1)))) (pda_nil))))))
abbrev N_locale_read : List Str := ["word", "count"]
theorem sc_locale_read : FnScope N_locale_read ["word", "count"] (defScope s_locale_read) := ⟨rfl, rfl, rfl, by decide +kernel, rfl, by decide +kernel, by decide +kernel⟩
theorem ok_locale_read (T : Tx K mg) : FnOk P w K mg base CX0 1 T.f_locale_read T.fd_locale_read ["word", "count"] (spD K run_locale_read) :=
  okD T.F_locale_read sc_locale_read rfl (fun cdv A outer s H E hr =>
    pds_cons (pds_if (PW.pt (pd_or (pd_cmpT (op_neDD hr.units) (pd_callB call_lenD (by rfl) T.m_len PySem.boot_len (pda_cons (pd_var (pv 0)) (pda_nil))) (pd_int) (nomark _)) (pw_or1 (pd_cmpT op_notInD (pd_var (pv 0)) (pd_slice (pd_c (pe_glob (v := .str "abcdefghij") (by rfl) T.c_LETTERS ⟨_, rfl⟩) (fun _ => .str _)) (po_no) (po_part (pd_var (pv 1)))) (by rfl))))) (pds_one (pds_ret (pd_non))) (pds_nil)) (pds_one (pds_ret (pd_meth PySem.F.slot_str_index PySem.F.type_str_index mt_indexD (pd_c (pe_glob (v := .str "abcdefghij") (by rfl) T.c_LETTERS ⟨_, rfl⟩) (fun _ => .str _)) (pda_cons (pd_var (pv 0)) (pda_nil))))))
abbrev N_none_written : List Str := ["parts", "first"]
theorem sc_none_written : FnScope N_none_written ["parts", "first"] (defScope s_none_written) := ⟨rfl, rfl, rfl, by decide +kernel, rfl, by decide +kernel, by decide +kernel⟩
theorem ok_none_written (T : Tx K mg) : FnOk P w K mg base CX0 1 T.f_none_written T.fd_none_written ["parts", "first"] (spD K run_none_written) :=
  okD T.F_none_written sc_none_written rfl (fun cdv A outer s H E hr =>
    pds_cons (pds_if (pd_cmpT op_leD (pd_callB call_lenD (by rfl) T.m_len PySem.boot_len (pda_cons (pd_var (pv 0)) (pda_nil))) (pd_var (pv 1)) (nomark _)) (pds_one (pds_stuck)) (pds_nil)) (pds_cons (pds_if (pd_cmpT (op_neDD hr.units) (pd_ix (pd_var (pv 0)) (pd_var (pv 1))) (pd_str) (nomark _)) (pds_one (pds_ret (pd_bl))) (pds_nil)) (pds_cons (pds_if (pd_cmpT op_gtD (pd_callB call_lenD (by rfl) T.m_len PySem.boot_len (pda_cons (pd_var (pv 0)) (pda_nil))) (pd_op op_addD (pd_var (pv 1)) (pd_int)) (nomark _)) (pds_one (pds_stuck)) (pds_nil)) (pds_one (pds_ret (pd_bl))))))
abbrev N_locales_read : List Str := ["parts", "first", "count", "rising", "found", "index", "locale"]
theorem sc_locales_read : FnScope N_locales_read ["parts", "first", "count", "rising"] (defScope s_locales_read) := ⟨rfl, rfl, rfl, by decide +kernel, rfl, by decide +kernel, by decide +kernel⟩
theorem ok_locales_read (T : Tx K mg) : FnOk P w K mg base CX0 2 T.f_locales_read T.fd_locales_read ["parts", "first", "count", "rising"] (spD K run_locales_read) :=
  okD T.F_locales_read sc_locales_read rfl (fun cdv A outer s H E hr =>
    pds_cons (pds_if (pd_tru (pd_fn (ok_none_written T) (hr.mono (by decide)) (by rfl) T.g_none_written T.F_none_written.kp T.b_none_written pass0 (pda_cons (pd_var (pv 0)) (pda_cons (pd_var (pv 1)) (pda_nil))))) (pds_one (pds_ret (pd_tup (pda_nil)))) (pds_nil)) (pds_cons (pds_own (i := 4) (ps_set (i := 4) sc_locales_read.nd rfl (.inl rfl) (pd_lst (pda_nil)))) (pds_cons (pds_for (tg := .one 5) PassesOwn.never rfl (pdi_rng2 (by rfl) T.m_range (pda_cons (pd_var (pv 1)) (pda_cons (pd_callB call_lenD (by rfl) T.m_len PySem.boot_len (pda_cons (pd_var (pv 0)) (pda_nil))) (pda_nil)))) (pg_name (i := 5) sc_locales_read.nd rfl (Or.inl rfl)) (pds_cons (pds_set (i := 6) (ps_set (i := 6) sc_locales_read.nd rfl (.inl rfl) (pd_fn (ok_locale_read T) (hr.mono (by decide)) (by rfl) T.g_locale_read T.F_locale_read.kp T.b_locale_read pass0 (pda_cons (pd_ix (pd_var (pv 0)) (pd_var (pv 5))) (pda_cons (pd_var (pv 2)) (pda_nil)))))) (pds_cons (pds_if (PW.pt (pd_or (pd_cmpT op_isD (pd_var (pv 6)) (pd_non) (nomark _)) (pw_or1 (PW.pt (pd_and (pd_tru (pd_var (pv 3))) (pd_and (pd_cmpT (op_neDD hr.units) (pd_var (pv 4)) (pd_lst (pda_nil)) (nomark _)) (pw_and1 (pd_cmpT op_leD (pd_var (pv 6)) (pd_ix (pd_var (pv 4)) (pd_neg (pd_int))) (nomark _))))))))) (pds_one (pds_stuck)) (pds_nil)) (pds_one (pds_app (i := 4) (pv 4) (pd_var (pv 6))))))) (pds_one (pds_ret (pd_callT call_tupleD (by rfl) T.m_tuple (by decide +kernel) (pda_cons (pd_var (pv 4)) (pda_nil))))))))
abbrev N_pairs_read : List Str := ["parts", "first", "count", "found", "index", "word", "before", "after"]
theorem sc_pairs_read : FnScope N_pairs_read ["parts", "first", "count"] (defScope s_pairs_read) := ⟨rfl, rfl, rfl, by decide +kernel, rfl, by decide +kernel, by decide +kernel⟩
theorem ok_pairs_read (T : Tx K mg) : FnOk P w K mg base CX0 2 T.f_pairs_read T.fd_pairs_read ["parts", "first", "count"] (spD K run_pairs_read) :=
  okD T.F_pairs_read sc_pairs_read rfl (fun cdv A outer s H E hr =>
    pds_cons (pds_if (pd_tru (pd_fn (ok_none_written T) (hr.mono (by decide)) (by rfl) T.g_none_written T.F_none_written.kp T.b_none_written pass0 (pda_cons (pd_var (pv 0)) (pda_cons (pd_var (pv 1)) (pda_nil))))) (pds_one (pds_ret (pd_tup (pda_nil)))) (pds_nil)) (pds_cons (pds_own (i := 3) (ps_set (i := 3) sc_pairs_read.nd rfl (.inl rfl) (pd_lst (pda_nil)))) (pds_cons (pds_for (tg := .one 4) PassesOwn.never rfl (pdi_rng2 (by rfl) T.m_range (pda_cons (pd_var (pv 1)) (pda_cons (pd_callB call_lenD (by rfl) T.m_len PySem.boot_len (pda_cons (pd_var (pv 0)) (pda_nil))) (pda_nil)))) (pg_name (i := 4) sc_pairs_read.nd rfl (Or.inl rfl)) (pds_cons (pds_set (i := 5) (ps_set (i := 5) sc_pairs_read.nd rfl (.inl rfl) (pd_ix (pd_var (pv 0)) (pd_var (pv 4))))) (pds_cons (pds_set (i := 6) (ps_set (i := 6) sc_pairs_read.nd rfl (.inl rfl) (pd_fn (ok_locale_read T) (hr.mono (by decide)) (by rfl) T.g_locale_read T.F_locale_read.kp T.b_locale_read pass0 (pda_cons (pd_slice (pd_var (pv 5)) (po_no) (po_part (pd_int))) (pda_cons (pd_var (pv 2)) (pda_nil)))))) (pds_cons (pds_set (i := 7) (ps_set (i := 7) sc_pairs_read.nd rfl (.inl rfl) (pd_fn (ok_locale_read T) (hr.mono (by decide)) (by rfl) T.g_locale_read T.F_locale_read.kp T.b_locale_read pass0 (pda_cons (pd_slice (pd_var (pv 5)) (po_part (pd_int)) (po_no)) (pda_cons (pd_var (pv 2)) (pda_nil)))))) (pds_cons (pds_if (PW.pt (pd_or (pd_cmpT op_isD (pd_var (pv 6)) (pd_non) (nomark _)) (pd_or (pd_cmpT op_isD (pd_var (pv 7)) (pd_non) (nomark _)) (pw_or1 (pd_cmpT (op_neDD hr.units) (pd_ix (pd_var (pv 5)) (pd_int)) (pd_str) (nomark _)))))) (pds_one (pds_stuck)) (pds_nil)) (pds_cons (pds_if (PW.pt (pd_and (pd_cmpT (op_neDD hr.units) (pd_var (pv 3)) (pd_lst (pda_nil)) (nomark _)) (pw_and1 (pd_cmpT op_leD (pd_var (pv 6)) (pd_ix (pd_ix (pd_var (pv 3)) (pd_neg (pd_int))) (pd_int)) (nomark _))))) (pds_one (pds_stuck)) (pds_nil)) (pds_one (pds_app (i := 3) (pv 3) (pd_tup (pda_cons (pd_var (pv 6)) (pda_cons (pd_var (pv 7)) (pda_nil)))))))))))) (pds_one (pds_ret (pd_callT call_tupleD (by rfl) T.m_tuple (by decide +kernel) (pda_cons (pd_var (pv 3)) (pda_nil))))))))
abbrev N_write_door : List Str := ["tree", "door", "word", "told", "before", "after"]
theorem sc_write_door : FnScope N_write_door ["tree", "door"] (defScope s_write_door) := ⟨rfl, rfl, rfl, by decide +kernel, rfl, by decide +kernel, by decide +kernel⟩
theorem ok_write_door (T : Tx K mg) : FnOk P w K mg base CX0 6 T.f_write_door T.fd_write_door ["tree", "door"] (spD K run_write_door) :=
  okD T.F_write_door sc_write_door rfl (fun cdv A outer s H E hr =>
    pds_cons (pds_drop (pd_fn (ok_need_tree T) (hr.mono (by decide)) (by rfl) T.g_need_tree T.F_need_tree.kp T.b_need_tree pass0 (pda_cons (pd_var (pv 0)) (pda_nil)))) (pds_cons (pds_if (pd_notT (pd_tru (pd_fn (ok_door_fits T) (hr.mono (by decide)) (by rfl) T.g_door_fits T.F_door_fits.kp T.b_door_fits pass0 (pda_cons (pd_var (pv 0)) (pda_cons (pd_var (pv 1)) (pda_nil)))))) (pds_one (pds_stuck)) (pds_nil)) (pds_cons (pds_unp (t := .many [2, 3]) (pd_var (pv 1)) (pg_tup rfl (pgs_cons (pg_name (i := 2) sc_write_door.nd rfl (Or.inl rfl)) (pgs_cons (pg_name (i := 3) sc_write_door.nd rfl (Or.inl rfl)) (pgs_nil))))) (pds_cons (pds_if (pd_cmpT (op_neDD hr.units) (pd_var (pv 2)) (pd_str) (nomark _)) (pds_one (pds_ret (pd_op op_addD (pd_op op_addD (pd_var (pv 2)) (pd_str)) (pd_fn (ok_locales_written T) (hr.mono (by decide)) (by rfl) T.g_locales_written T.F_locales_written.kp T.b_locales_written pass0 (pda_cons (pd_var (pv 3)) (pda_nil)))))) (pds_nil)) (pds_cons (pds_if (pd_cmpT (op_eqDD hr.units) (pd_callB call_lenD (by rfl) T.m_len PySem.boot_len (pda_cons (pd_var (pv 3)) (pda_nil))) (pd_int) (nomark _)) (pds_one (pds_ret (pd_str))) (pds_nil)) (pds_one (pds_ret (pd_meth PySem.F.slot_str_join PySem.F.type_str_join mt_joinD (pd_str) (pda_cons (pd_op op_addD (pd_lst (pda_cons (pd_str) (pda_nil))) (pd_lc (own := [("before", 4), ("after", 5)]) (tg := .many [4, 5]) rfl sc_write_door.nd (by simp [tgOwn]) (pdi_seq (pd_var (pv 3))) (blkOk_by (N := N_write_door) (sc := defScope s_write_door) (own := [("before", 4), ("after", 5)]) (by decide +kernel)) (fun _ _ _ _ _ => pg_tup rfl (pgs_cons (pg_name (i := 4) sc_write_door.nd rfl (Or.inl rfl)) (pgs_cons (pg_name (i := 5) sc_write_door.nd rfl (Or.inl rfl)) (pgs_nil)))) (fun _ _ _ _ _ => pdts_nil) (fun _ _ _ _ _ => pd_fs (fs := [dFmt (dOp idxD (dC (.str "abcdefghij")) (dVar 4)), dC (.str ">"), dFmt (dOp idxD (dC (.str "abcdefghij")) (dVar 5))]) (.cons (pd_fmt (pd_ix (pd_c (pe_glob (v := .str "abcdefghij") (by rfl) T.c_LETTERS ⟨_, rfl⟩) (fun _ => .str _)) (pd_var (pv 4)))) (.cons (pd_str) (.cons (pd_fmt (pd_ix (pd_c (pe_glob (v := .str "abcdefghij") (by rfl) T.c_LETTERS ⟨_, rfl⟩) (fun _ => .str _)) (pd_var (pv 5)))) (.nil))))))) (pda_nil))))))))))
abbrev N_read_door : List Str := ["tree", "words", "parts", "word"]
theorem sc_read_door : FnScope N_read_door ["tree", "words"] (defScope s_read_door) := ⟨rfl, rfl, rfl, by decide +kernel, rfl, by decide +kernel, by decide +kernel⟩
theorem ok_read_door (T : Tx K mg) : FnOk P w K mg base CX0 4 T.f_read_door T.fd_read_door ["tree", "words"] (spD K run_read_door) :=
  okD T.F_read_door sc_read_door rfl (fun cdv A outer s H E hr =>
    pds_cons (pds_drop (pd_fn (ok_need_tree T) (hr.mono (by decide)) (by rfl) T.g_need_tree T.F_need_tree.kp T.b_need_tree pass0 (pda_cons (pd_var (pv 0)) (pda_nil)))) (pds_cons (pds_set (i := 2) (ps_set (i := 2) sc_read_door.nd rfl (.inl rfl) (pd_meth PySem.F.slot_str_split PySem.F.type_str_split mt_splitD (pd_var (pv 1)) (pda_cons (pd_str) (pda_nil))))) (pds_cons (pds_set (i := 3) (ps_set (i := 3) sc_read_door.nd rfl (.inl rfl) (pd_ix (pd_var (pv 2)) (pd_int)))) (pds_cons (pds_if (pd_cmpT (op_eqDD hr.units) (pd_var (pv 3)) (pd_str) (nomark _)) (pds_one (pds_ret (pd_tup (pda_cons (pd_var (pv 3)) (pda_cons (pd_fn (ok_pairs_read T) (hr.mono (by decide)) (by rfl) T.g_pairs_read T.F_pairs_read.kp T.b_pairs_read pass0 (pda_cons (pd_var (pv 2)) (pda_cons (pd_int) (pda_cons (pd_callB call_lenD (by rfl) T.m_len PySem.boot_len (pda_cons (pd_var (pv 0)) (pda_nil))) (pda_nil))))) (pda_nil)))))) (pds_nil)) (pds_cons (pds_if (pd_cmpT op_inD (pd_var (pv 3)) (pd_tup (pda_cons (pd_str) (pda_cons (pd_str) (pda_cons (pd_str) (pda_cons (pd_str) (pda_nil)))))) (by rfl)) (pds_one (pds_ret (pd_tup (pda_cons (pd_var (pv 3)) (pda_cons (pd_fn (ok_locales_read T) (hr.mono (by decide)) (by rfl) T.g_locales_read T.F_locales_read.kp T.b_locales_read pass0 (pda_cons (pd_var (pv 2)) (pda_cons (pd_int) (pda_cons (pd_callB call_lenD (by rfl) T.m_len PySem.boot_len (pda_cons (pd_var (pv 0)) (pda_nil))) (pda_cons (pd_cmp op_inD (pd_var (pv 3)) (pd_tup (pda_cons (pd_str) (pda_cons (pd_str) (pda_nil)))) (by rfl)) (pda_nil)))))) (pda_nil)))))) (pds_nil)) (pds_one (pds_stuck)))))))
abbrev N__law_fill : List Str := ["cell"]
theorem sc__law_fill : FnScope N__law_fill ["cell"] (defScope s__law_fill) := ⟨rfl, rfl, rfl, by decide +kernel, rfl, by decide +kernel, by decide +kernel⟩
theorem ok__law_fill (T : Tx K mg) : FnOk P w K mg base CX0 1 T.f__law_fill T.fd__law_fill ["cell"] (spD K run__law_fill) :=
  okD T.F__law_fill sc__law_fill rfl (fun cdv A outer s H E hr =>
    pds_one (pds_ret (pd_lst (pda_cons (pd_callB (call_maxD rfl) (by rfl) T.m_max (by decide +kernel) (pda_cons (pd_int) (pda_cons (pd_op op_subD (pd_var (pv 0)) (pd_op op_powD (pd_int) (pd_int))) (pda_nil)))) (pda_cons (pd_op op_modD (pd_callT call_intD (by rfl) T.m_int (by decide +kernel) (pda_cons (pd_var (pv 0)) (pda_nil))) (pd_int)) (pda_cons (pd_int) (pda_nil)))))))
abbrev N__law_pull : List Str := ["jar", "size", "digit", "stir"]
theorem sc__law_pull : FnScope N__law_pull ["jar", "size"] (defScope s__law_pull) := ⟨rfl, rfl, rfl, by decide +kernel, rfl, by decide +kernel, by decide +kernel⟩
theorem ok__law_pull (T : Tx K mg) : FnOk P w K mg base CX0 1 T.f__law_pull T.fd__law_pull ["jar", "size"] (spJ K run__law_pull) :=
  okJ T.F__law_pull sc__law_pull rfl (fun cdv A outer s H E hr =>
    pds_cons (pds_if (pd_cmpT op_gtD (pd_ix (pd_var (pv 0)) (pd_int)) (pd_int) (nomark _)) (pds_cons (pds_set (i := 2) (ps_set (i := 2) sc__law_pull.nd rfl (.inl rfl) (pd_op op_modD (pd_callT call_intD (by rfl) T.m_int (by decide +kernel) (pda_cons (pd_ix (pd_var (pv 0)) (pd_int)) (pda_nil))) (pd_var (pv 1))))) (pds_cons (pds_put (pd_var (pv 0)) (pd_int) (pd_op op_fdivD (pd_ix (pd_var (pv 0)) (pd_int)) (pd_var (pv 1)))) (pds_one (pds_ret (pd_var (pv 2)))))) (pds_nil)) (pds_cons (pds_put (pd_var (pv 0)) (pd_int) (pd_op op_addD (pd_ix (pd_var (pv 0)) (pd_int)) (pd_int))) (pds_cons (pds_set (i := 3) (ps_set (i := 3) sc__law_pull.nd rfl (.inl rfl) (pd_op op_modD (pd_callT call_intD (by rfl) T.m_int (by decide +kernel) (pda_cons (pd_op op_addD (pd_op op_addD (pd_ix (pd_var (pv 0)) (pd_int)) (pd_op op_mulD (pd_op op_mulD (pd_int) (pd_ix (pd_var (pv 0)) (pd_int))) (pd_ix (pd_var (pv 0)) (pd_int)))) (pd_op op_mulD (pd_int) (pd_ix (pd_var (pv 0)) (pd_int)))) (pda_nil))) (pd_int)))) (pds_cons (pds_set (i := 3) (ps_set (i := 3) sc__law_pull.nd rfl (.inl rfl) (pd_op op_modD (pd_callT call_intD (by rfl) T.m_int (by decide +kernel) (pda_cons (pd_op op_addD (pd_op op_addD (pd_op op_mulD (pd_var (pv 3)) (pd_var (pv 3))) (pd_op op_mulD (pd_int) (pd_ix (pd_var (pv 0)) (pd_int)))) (pd_int)) (pda_nil))) (pd_int)))) (pds_cons (pds_set (i := 3) (ps_set (i := 3) sc__law_pull.nd rfl (.inl rfl) (pd_op op_modD (pd_callT call_intD (by rfl) T.m_int (by decide +kernel) (pda_cons (pd_op op_mulD (pd_var (pv 3)) (pd_var (pv 3))) (pda_nil))) (pd_int)))) (pds_one (pds_ret (pd_op op_modD (pd_callT call_intD (by rfl) T.m_int (by decide +kernel) (pda_cons (pd_op op_fdivD (pd_var (pv 3)) (pd_int)) (pda_nil))) (pd_var (pv 1))))))))))
abbrev N__law_some_world : List Str := ["jar", "reach", "many", "shape", "ups", "at", "up"]
theorem sc__law_some_world : FnScope N__law_some_world ["jar", "reach"] (defScope s__law_some_world) := ⟨rfl, rfl, rfl, by decide +kernel, rfl, by decide +kernel, by decide +kernel⟩
theorem ok__law_some_world (T : Tx K mg) : FnOk P w K mg base CX0 2 T.f__law_some_world T.fd__law_some_world ["jar", "reach"] (spJ K run__law_some_world) :=
  okJ T.F__law_some_world sc__law_some_world rfl (fun cdv A outer s H E hr =>
    pds_cons (pds_set (i := 2) (ps_set (i := 2) sc__law_some_world.nd rfl (.inl rfl) (pd_op op_addD (pd_int) (pd_fnJ (ok__law_pull T) (hr.mono (by decide)) (by rfl) T.g__law_pull T.F__law_pull.kp T.b__law_pull pass0 (pda_cons (pd_var (pv 0)) (pda_cons (pd_var (pv 1)) (pda_nil))))))) (pds_cons (pds_set (i := 3) (ps_set (i := 3) sc__law_some_world.nd rfl (.inl rfl) (pd_fnJ (ok__law_pull T) (hr.mono (by decide)) (by rfl) T.g__law_pull T.F__law_pull.kp T.b__law_pull pass0 (pda_cons (pd_var (pv 0)) (pda_cons (pd_int) (pda_nil)))))) (pds_cons (pds_own (i := 4) (ps_set (i := 4) sc__law_some_world.nd rfl (.inl rfl) (pd_lst (pda_cons (pd_non) (pda_nil))))) (pds_cons (pds_for (tg := .one 5) PassesOwn.never rfl (pdi_rng2 (by rfl) T.m_range (pda_cons (pd_int) (pda_cons (pd_var (pv 2)) (pda_nil)))) (pg_name (i := 5) sc__law_some_world.nd rfl (Or.inl rfl)) (pds_cons (pds_set (i := 6) (ps_set (i := 6) sc__law_some_world.nd rfl (.inl rfl) (pd_int))) (pds_cons (pds_if (PW.pt (pd_or (pd_cmpT (op_eqDD hr.units) (pd_var (pv 3)) (pd_int) (nomark _)) (pw_or1 (pd_cmpT (op_eqDD hr.units) (pd_var (pv 3)) (pd_int) (nomark _))))) (pds_one (pds_set (i := 6) (ps_set (i := 6) sc__law_some_world.nd rfl (.inl rfl) (pd_fnJ (ok__law_pull T) (hr.mono (by decide)) (by rfl) T.g__law_pull T.F__law_pull.kp T.b__law_pull pass0 (pda_cons (pd_var (pv 0)) (pda_cons (pd_var (pv 5)) (pda_nil))))))) (pds_nil)) (pds_cons (pds_if (pd_cmpT (op_eqDD hr.units) (pd_var (pv 3)) (pd_int) (nomark _)) (pds_one (pds_set (i := 6) (ps_set (i := 6) sc__law_some_world.nd rfl (.inl rfl) (pd_op op_subD (pd_var (pv 5)) (pd_int))))) (pds_nil)) (pds_cons (pds_if (pd_cmpT (op_eqDD hr.units) (pd_var (pv 3)) (pd_int) (nomark _)) (pds_one (pds_set (i := 6) (ps_set (i := 6) sc__law_some_world.nd rfl (.inl rfl) (pd_callB (call_minD rfl) (by rfl) T.m_min (by decide +kernel) (pda_cons (pd_op op_subD (pd_var (pv 5)) (pd_int)) (pda_cons (pd_op op_fdivD (pd_var (pv 2)) (pd_int)) (pda_nil))))))) (pds_nil)) (pds_cons (pds_if (pd_cmpT (op_eqDD hr.units) (pd_var (pv 3)) (pd_int) (nomark _)) (pds_one (pds_set (i := 6) (ps_set (i := 6) sc__law_some_world.nd rfl (.inl rfl) (pd_fnJ (ok__law_pull T) (hr.mono (by decide)) (by rfl) T.g__law_pull T.F__law_pull.kp T.b__law_pull pass0 (pda_cons (pd_var (pv 0)) (pda_cons (pd_callB (call_minD rfl) (by rfl) T.m_min (by decide +kernel) (pda_cons (pd_var (pv 5)) (pda_cons (pd_int) (pda_nil)))) (pda_nil))))))) (pds_nil)) (pds_one (pds_app (i := 4) (pv 4) (pd_var (pv 6)))))))))) (pds_one (pds_ret (pd_callT call_tupleD (by rfl) T.m_tuple (by decide +kernel) (pda_cons (pd_var (pv 4)) (pda_nil)))))))))
abbrev N__law_up : List Str := ["world", "spot", "steps"]
theorem sc__law_up : FnScope N__law_up ["world", "spot"] (defScope s__law_up) := ⟨rfl, rfl, rfl, by decide +kernel, rfl, by decide +kernel, by decide +kernel⟩
theorem ok__law_up (T : Tx K mg) : FnOk P w K mg base CX0 1 T.f__law_up T.fd__law_up ["world", "spot"] (spD K run__law_up) :=
  okD T.F__law_up sc__law_up rfl (fun cdv A outer s H E hr =>
    pds_cons (pds_own (i := 2) (ps_set (i := 2) sc__law_up.nd rfl (.inl rfl) (pd_lst (pda_cons (pd_var (pv 1)) (pda_nil))))) (pds_cons (pds_while (n := FUEL) PassesOwn.never (PW.pt (pd_and (pd_cmpT op_isntD (pd_ix (pd_var (pv 0)) (pd_ix (pd_var (pv 2)) (pd_neg (pd_int)))) (pd_non) (nomark _)) (pw_and1 (pd_cmpT op_gtD (pd_ix (pd_var (pv 0)) (pd_ix (pd_var (pv 2)) (pd_neg (pd_int)))) (pd_int) (nomark _))))) (pds_one (pds_app (i := 2) (pv 2) (pd_ix (pd_var (pv 0)) (pd_ix (pd_var (pv 2)) (pd_neg (pd_int))))))) (pds_one (pds_ret (pd_var (pv 2))))))
abbrev N__law_some_asks : List Str := ["jar", "world", "reach", "many", "asks", "k", "turn", "spot", "steps"]
theorem sc__law_some_asks : FnScope N__law_some_asks ["jar", "world", "reach"] (defScope s__law_some_asks) := ⟨rfl, rfl, rfl, by decide +kernel, rfl, by decide +kernel, by decide +kernel⟩
theorem ok__law_some_asks (T : Tx K mg) : FnOk P w K mg base CX0 2 T.f__law_some_asks T.fd__law_some_asks ["jar", "world", "reach"] (spJ K run__law_some_asks) :=
  okJ T.F__law_some_asks sc__law_some_asks rfl (fun cdv A outer s H E hr =>
    pds_cons (pds_set (i := 3) (ps_set (i := 3) sc__law_some_asks.nd rfl (.inl rfl) (pd_callB (call_minD rfl) (by rfl) T.m_min (by decide +kernel) (pda_cons (pd_var (pv 2)) (pda_cons (pd_ix (pd_lst (pda_cons (pd_int) (pda_cons (pd_int) (pda_cons (pd_int) (pda_cons (pd_int) (pda_cons (pd_int) (pda_cons (pd_int) (pda_cons (pd_op op_fdivD (pd_var (pv 2)) (pd_int)) (pda_cons (pd_var (pv 2)) (pda_nil)))))))))) (pd_fnJ (ok__law_pull T) (hr.mono (by decide)) (by rfl) T.g__law_pull T.F__law_pull.kp T.b__law_pull pass0 (pda_cons (pd_var (pv 0)) (pda_cons (pd_int) (pda_nil))))) (pda_nil)))))) (pds_cons (pds_set (i := 4) (ps_set (i := 4) sc__law_some_asks.nd rfl (.inl rfl) (pd_tup (pda_nil)))) (pds_cons (pds_for (tg := .one 5) PassesOwn.never rfl (pdi_rng1 (by rfl) T.m_range (pda_cons (pd_var (pv 3)) (pda_nil))) (pg_name (i := 5) sc__law_some_asks.nd rfl (Or.inl rfl)) (pds_cons (pds_set (i := 6) (ps_set (i := 6) sc__law_some_asks.nd rfl (.inl rfl) (pd_fnJ (ok__law_pull T) (hr.mono (by decide)) (by rfl) T.g__law_pull T.F__law_pull.kp T.b__law_pull pass0 (pda_cons (pd_var (pv 0)) (pda_cons (pd_int) (pda_nil)))))) (pds_cons (pds_set (i := 7) (ps_set (i := 7) sc__law_some_asks.nd rfl (.inl rfl) (pd_int))) (pds_cons (pds_if (pd_cmpT op_gtD (pd_var (pv 6)) (pd_int) (nomark _)) (pds_one (pds_set (i := 7) (ps_set (i := 7) sc__law_some_asks.nd rfl (.inl rfl) (pd_fnJ (ok__law_pull T) (hr.mono (by decide)) (by rfl) T.g__law_pull T.F__law_pull.kp T.b__law_pull pass0 (pda_cons (pd_var (pv 0)) (pda_cons (pd_callB call_lenD (by rfl) T.m_len PySem.boot_len (pda_cons (pd_var (pv 1)) (pda_nil))) (pda_nil))))))) (pds_nil)) (pds_cons (pds_if (PW.pt (pd_and (pd_cmpT op_gtD (pd_var (pv 6)) (pd_int) (nomark _)) (pw_and1 (pd_cmpT (op_neDD hr.units) (pd_var (pv 4)) (pd_tup (pda_nil)) (nomark _))))) (pds_cons (pds_set (i := 8) (ps_set (i := 8) sc__law_some_asks.nd rfl (.inl rfl) (pd_fn (ok__law_up T) (hr.mono (by decide)) (by rfl) T.g__law_up T.F__law_up.kp T.b__law_up pass0 (pda_cons (pd_var (pv 1)) (pda_cons (pd_ix (pd_var (pv 4)) (pd_fnJ (ok__law_pull T) (hr.mono (by decide)) (by rfl) T.g__law_pull T.F__law_pull.kp T.b__law_pull pass0 (pda_cons (pd_var (pv 0)) (pda_cons (pd_callB call_lenD (by rfl) T.m_len PySem.boot_len (pda_cons (pd_var (pv 4)) (pda_nil))) (pda_nil))))) (pda_nil)))))) (pds_one (pds_set (i := 7) (ps_set (i := 7) sc__law_some_asks.nd rfl (.inl rfl) (pd_ix (pd_var (pv 8)) (pd_fnJ (ok__law_pull T) (hr.mono (by decide)) (by rfl) T.g__law_pull T.F__law_pull.kp T.b__law_pull pass0 (pda_cons (pd_var (pv 0)) (pda_cons (pd_callB call_lenD (by rfl) T.m_len PySem.boot_len (pda_cons (pd_var (pv 8)) (pda_nil))) (pda_nil))))))))) (pds_nil)) (pds_one (pds_set (i := 4) (ps_set (i := 4) sc__law_some_asks.nd rfl (.inl rfl) (pd_op op_addD (pd_var (pv 4)) (pd_tup (pda_cons (pd_var (pv 7)) (pda_nil)))))))))))) (pds_one (pds_ret (pd_var (pv 4)))))))
abbrev N__law_some_door : List Str := ["jar", "world", "word", "share", "spots", "spot"]
theorem sc__law_some_door : FnScope N__law_some_door ["jar", "world"] (defScope s__law_some_door) := ⟨rfl, rfl, rfl, by decide +kernel, rfl, by decide +kernel, by decide +kernel⟩
theorem ok__law_some_door (T : Tx K mg) : FnOk P w K mg base CX0 3 T.f__law_some_door T.fd__law_some_door ["jar", "world"] (spJ K run__law_some_door) :=
  okJ T.F__law_some_door sc__law_some_door rfl (fun cdv A outer s H E hr =>
    pds_cons (pds_set (i := 2) (ps_set (i := 2) sc__law_some_door.nd rfl (.inl rfl) (pd_ix (pd_lst (pda_cons (pd_str) (pda_cons (pd_str) (pda_cons (pd_str) (pda_cons (pd_str) (pda_cons (pd_str) (pda_nil))))))) (pd_fnJ (ok__law_pull T) (hr.mono (by decide)) (by rfl) T.g__law_pull T.F__law_pull.kp T.b__law_pull pass0 (pda_cons (pd_var (pv 0)) (pda_cons (pd_int) (pda_nil))))))) (pds_cons (pds_set (i := 3) (ps_set (i := 3) sc__law_some_door.nd rfl (.inr rfl) (pd_ix (pd_lst (pda_cons (pd_int) (pda_cons (pd_int) (pda_cons (pd_int) (pda_cons (pd_int) (pda_cons (pd_int) (pda_nil))))))) (pd_fnJ (ok__law_pull T) (hr.mono (by decide)) (by rfl) T.g__law_pull T.F__law_pull.kp T.b__law_pull pass0 (pda_cons (pd_var (pv 0)) (pda_cons (pd_int) (pda_nil))))))) (pds_cons (pds_if (PW.pt (pd_or (pd_cmpT (op_eqDD hr.units) (pd_var (pv 2)) (pd_str) (nomark _)) (pw_or1 (pd_cmpT (op_eqDD hr.units) (pd_var (pv 2)) (pd_str) (nomark _))))) (pds_one (pds_ret (pd_tup (pda_cons (pd_var (pv 2)) (pda_cons (pd_fnJ (ok__law_some_asks T) (hr.mono (by decide)) (by rfl) T.g__law_some_asks T.F__law_some_asks.kp T.b__law_some_asks pass0 (pda_cons (pd_var (pv 0)) (pda_cons (pd_var (pv 1)) (pda_cons (pd_ix (pd_lst (pda_cons (pd_int) (pda_cons (pd_int) (pda_cons (pd_int) (pda_cons (pd_int) (pda_cons (pd_int) (pda_nil))))))) (pd_var (pv 3))) (pda_nil))))) (pda_nil)))))) (pds_nil)) (pds_cons (pds_set (i := 4) (ps_lcSet (i := 4) (own := [("spot", 5)]) (tg := .one 5) rfl sc__law_some_door.nd (by simp [tgOwn]) rfl rfl (sw_true rfl rfl rfl (by decide +kernel)) (pdi_rng1 (by rfl) T.m_range (pda_cons (pd_callB call_lenD (by rfl) T.m_len PySem.boot_len (pda_cons (pd_var (pv 1)) (pda_nil))) (pda_nil))) (blkOk_by (N := N__law_some_door) (sc := defScope s__law_some_door) (own := [("spot", 5)]) (by decide +kernel)) (fun _ _ _ _ _ => pg_name (i := 5) sc__law_some_door.nd rfl (Or.inl rfl)) (fun _ _ _ _ _ => pdts_one (pd_cmpT op_ltD (pd_fnJ (ok__law_pull T) (hr.mono (by decide)) (by rfl) T.g__law_pull T.F__law_pull.kp T.b__law_pull pass0 (pda_cons (pd_var (pv 0)) (pda_cons (pd_int) (pda_nil)))) (pd_var (pv 3)) (nomark _))) (fun _ _ _ _ _ => pd_var (pv 5)))) (pds_cons (pds_if (pd_cmpT (op_eqDD hr.units) (pd_var (pv 2)) (pd_str) (nomark _)) (pds_one (pds_ret (pd_tup (pda_cons (pd_var (pv 2)) (pda_cons (pd_callT call_tupleD (by rfl) T.m_tuple (by decide +kernel) (pda_cons (pd_lc (own := [("spot", 5)]) (tg := .one 5) rfl sc__law_some_door.nd (by simp [tgOwn]) (pdi_seq (pd_var (pv 4))) (blkOk_by (N := N__law_some_door) (sc := defScope s__law_some_door) (own := [("spot", 5)]) (by decide +kernel)) (fun _ _ _ _ _ => pg_name (i := 5) sc__law_some_door.nd rfl (Or.inl rfl)) (fun _ _ _ _ _ => pdts_nil) (fun _ _ _ _ _ => pd_tup (pda_cons (pd_var (pv 5)) (pda_cons (pd_fnJ (ok__law_pull T) (hr.mono (by decide)) (by rfl) T.g__law_pull T.F__law_pull.kp T.b__law_pull pass0 (pda_cons (pd_var (pv 0)) (pda_cons (pd_callB call_lenD (by rfl) T.m_len PySem.boot_len (pda_cons (pd_var (pv 1)) (pda_nil))) (pda_nil)))) (pda_nil))))) (pda_nil))) (pda_nil)))))) (pds_nil)) (pds_one (pds_ret (pd_tup (pda_cons (pd_var (pv 2)) (pda_cons (pd_callT call_tupleD (by rfl) T.m_tuple (by decide +kernel) (pda_cons (pd_var (pv 4)) (pda_nil))) (pda_nil)))))))))))
abbrev N__law_letters : List Str := ["spots", "spot"]
theorem sc__law_letters : FnScope N__law_letters ["spots"] (defScope s__law_letters) := ⟨rfl, rfl, rfl, by decide +kernel, rfl, by decide +kernel, by decide +kernel⟩
theorem ok__law_letters (T : Tx K mg) : FnOk P w K mg base CX0 1 T.f__law_letters T.fd__law_letters ["spots"] (spD K run__law_letters) :=
  okD T.F__law_letters sc__law_letters rfl (fun cdv A outer s H E hr =>
    pds_cons (pds_if (pd_cmpT (op_eqDD hr.units) (pd_callT call_listD (by rfl) T.m_list (by decide +kernel) (pda_cons (pd_var (pv 0)) (pda_nil))) (pd_lst (pda_nil)) (nomark _)) (pds_one (pds_ret (pd_str))) (pds_nil)) (pds_one (pds_ret (pd_meth PySem.F.slot_str_join PySem.F.type_str_join mt_joinD (pd_str) (pda_cons (pd_lc (own := [("spot", 1)]) (tg := .one 1) rfl sc__law_letters.nd (by simp [tgOwn]) (pdi_seq (pd_var (pv 0))) (blkOk_by (N := N__law_letters) (sc := defScope s__law_letters) (own := [("spot", 1)]) (by decide +kernel)) (fun _ _ _ _ _ => pg_name (i := 1) sc__law_letters.nd rfl (Or.inl rfl)) (fun _ _ _ _ _ => pdts_nil) (fun _ _ _ _ _ => pd_ix (pd_str) (pd_var (pv 1)))) (pda_nil))))))
abbrev N__law_door_words : List Str := ["gate", "spot", "one", "other"]
theorem sc__law_door_words : FnScope N__law_door_words ["gate"] (defScope s__law_door_words) := ⟨rfl, rfl, rfl, by decide +kernel, rfl, by decide +kernel, by decide +kernel⟩
theorem ok__law_door_words (T : Tx K mg) : FnOk P w K mg base CX0 2 T.f__law_door_words T.fd__law_door_words ["gate"] (spD K run__law_door_words) :=
  okD T.F__law_door_words sc__law_door_words rfl (fun cdv A outer s H E hr =>
    pds_cons (pds_if (PW.pt (pd_or (pd_cmpT (op_neDD hr.units) (pd_ix (pd_var (pv 0)) (pd_int)) (pd_str) (nomark _)) (pw_or1 (pd_cmpT (op_eqDD hr.units) (pd_ix (pd_var (pv 0)) (pd_int)) (pd_tup (pda_nil)) (nomark _))))) (pds_one (pds_ret (pd_op op_addD (pd_op op_addD (pd_ix (pd_var (pv 0)) (pd_int)) (pd_str)) (pd_fn (ok__law_letters T) (hr.mono (by decide)) (by rfl) T.g__law_letters T.F__law_letters.kp T.b__law_letters pass0 (pda_cons (pd_lc (own := [("spot", 1)]) (tg := .one 1) rfl sc__law_door_words.nd (by simp [tgOwn]) (pdi_seq (pd_ix (pd_var (pv 0)) (pd_int))) (blkOk_by (N := N__law_door_words) (sc := defScope s__law_door_words) (own := [("spot", 1)]) (by decide +kernel)) (fun _ _ _ _ _ => pg_name (i := 1) sc__law_door_words.nd rfl (Or.inl rfl)) (fun _ _ _ _ _ => pdts_nil) (fun _ _ _ _ _ => pd_var (pv 1))) (pda_nil)))))) (pds_nil)) (pds_one (pds_ret (pd_meth PySem.F.slot_str_join PySem.F.type_str_join mt_joinD (pd_str) (pda_cons (pd_op op_addD (pd_lst (pda_cons (pd_str) (pda_nil))) (pd_lc (own := [("one", 2), ("other", 3)]) (tg := .many [2, 3]) rfl sc__law_door_words.nd (by simp [tgOwn]) (pdi_seq (pd_ix (pd_var (pv 0)) (pd_int))) (blkOk_by (N := N__law_door_words) (sc := defScope s__law_door_words) (own := [("one", 2), ("other", 3)]) (by decide +kernel)) (fun _ _ _ _ _ => pg_tup rfl (pgs_cons (pg_name (i := 2) sc__law_door_words.nd rfl (Or.inl rfl)) (pgs_cons (pg_name (i := 3) sc__law_door_words.nd rfl (Or.inl rfl)) (pgs_nil)))) (fun _ _ _ _ _ => pdts_nil) (fun _ _ _ _ _ => pd_op op_addD (pd_op op_addD (pd_ix (pd_str) (pd_var (pv 2))) (pd_str)) (pd_ix (pd_str) (pd_var (pv 3)))))) (pda_nil))))))
abbrev N__law_same : List Str := ["told", "due"]
theorem sc__law_same : FnScope N__law_same ["told", "due"] (defScope s__law_same) := ⟨rfl, rfl, rfl, by decide +kernel, rfl, by decide +kernel, by decide +kernel⟩
theorem ok__law_same (T : Tx K mg) : FnG P w K mg base CX0 1 T.f__law_same T.fd__law_same ["told", "due"] (spD K run__law_same) :=
  okDG T.F__law_same sc__law_same rfl (fun cdv A outer s H E hG hr =>
    pds_one (pds_ret (pd_andV (pd_cmp (op_eqDD hr.units) (pd_var (pv 0)) (pd_var (pv 1)) (nomark _)) (pe_one (pd_cmp (op_eqDD hr.units) (pd_callB (call_reprD hG hr.u66) (by rfl) T.m_repr (by decide +kernel) (pda_cons (pd_var (pv 0)) (pda_nil))) (pd_callB (call_reprD hG hr.u66) (by rfl) T.m_repr (by decide +kernel) (pda_cons (pd_var (pv 1)) (pda_nil))) (nomark _))))))
abbrev N_law : List Str := ["script", "cell", "jar", "world", "k", "gate", "text"]
theorem sc_law : FnScope N_law ["script"] (defScope s_law) := ⟨rfl, rfl, rfl, by decide +kernel, rfl, by decide +kernel, by decide +kernel⟩
theorem ok_law (T : Tx K mg) : FnG P w K mg base CX0 7 T.f_law T.fd_law ["script"] (spLaw K run_law) :=
  okG T.F_law sc_law spLaw_len (fun vs H Q E h => runLaw_ok (E := E) h) (fun cdv A outer s H E hG hr =>
    pds_cons (pds_for (tg := .one 1) PassesOwn.never rfl (pdi_seq (pd_op op_addD (pd_lst (pda_cons (pd_op op_addD (pd_op op_powD (pd_int) (pd_int)) (pd_int)) (pda_nil))) (pd_scr (i := 0) (pv 0) (po_no) (po_part (pd_int))))) (pg_name (i := 1) sc_law.nd rfl (Or.inl rfl)) (pds_cons (pds_own (i := 2) (ps_set (i := 2) sc_law.nd rfl (.inl rfl) (pd_fn (ok__law_fill T) (hr.mono (by decide)) (by rfl) T.g__law_fill T.F__law_fill.kp T.b__law_fill pass0 (pda_cons (pd_var (pv 1)) (pda_nil))))) (pds_cons (pds_set (i := 3) (ps_set (i := 3) sc_law.nd rfl (.inl rfl) (pd_fnJ (ok__law_some_world T) (hr.mono (by decide)) (by rfl) T.g__law_some_world T.F__law_some_world.kp T.b__law_some_world pass0 (pda_cons (pd_var (pv 2)) (pda_cons (pd_int) (pda_nil)))))) (pds_cons (pds_for (tg := .one 4) PassesOwn.never rfl (pdi_rng1 (by rfl) T.m_range (pda_cons (pd_int) (pda_nil))) (pg_name (i := 4) sc_law.nd rfl (Or.inl rfl)) (pds_cons (pds_set (i := 5) (ps_set (i := 5) sc_law.nd rfl (.inl rfl) (pd_fnJ (ok__law_some_door T) (hr.mono (by decide)) (by rfl) T.g__law_some_door T.F__law_some_door.kp T.b__law_some_door pass0 (pda_cons (pd_var (pv 2)) (pda_cons (pd_var (pv 3)) (pda_nil)))))) (pds_cons (pds_set (i := 6) (ps_set (i := 6) sc_law.nd rfl (.inl rfl) (pd_fn (ok__law_door_words T) (hr.mono (by decide)) (by rfl) T.g__law_door_words T.F__law_door_words.kp T.b__law_door_words pass0 (pda_cons (pd_var (pv 5)) (pda_nil))))) (pds_one (pds_if (PW.pt (pd_or (pd_notT (pd_tru (pd_fnG (ok__law_same T) hG (hr.mono (by decide)) (by rfl) T.g__law_same T.F__law_same.kp T.b__law_same pass0 (pda_cons (pd_fn (ok_write_door T) (hr.mono (by decide)) (by rfl) T.g_write_door T.F_write_door.kp T.b_write_door pass0 (pda_cons (pd_var (pv 3)) (pda_cons (pd_var (pv 5)) (pda_nil)))) (pda_cons (pd_var (pv 6)) (pda_nil)))))) (pw_or1 (pd_notT (pd_tru (pd_fnG (ok__law_same T) hG (hr.mono (by decide)) (by rfl) T.g__law_same T.F__law_same.kp T.b__law_same pass0 (pda_cons (pd_fn (ok_read_door T) (hr.mono (by decide)) (by rfl) T.g_read_door T.F_read_door.kp T.b_read_door pass0 (pda_cons (pd_var (pv 3)) (pda_cons (pd_var (pv 6)) (pda_nil)))) (pda_cons (pd_var (pv 5)) (pda_nil))))))))) (pds_one (pds_ret (pd_bl))) (pds_nil)))))) (pds_one (pds_if (PW.pt (pd_or (pd_cmpT (op_neDD hr.units) (pd_fnK2 (ok_write_door T) (hr.mono (by decide)) (by rfl) T.g_write_door T.F_write_door.kp T.kb_write_door_door_tree pass0 (pdk_cons (pd_var (pv 5)) (pdk_cons (pd_var (pv 3)) (pdk_nil)))) (pd_var (pv 6)) (nomark _)) (pw_or1 (pd_cmpT op_isntB (pd_fn (ok_is_door T) (hr.mono (by decide)) (by rfl) T.g_is_door T.F_is_door.kp T.b_is_door pass0 (pda_cons (pd_var (pv 3)) (pda_cons (pd_fnK2 (ok_read_door T) (hr.mono (by decide)) (by rfl) T.g_read_door T.F_read_door.kp T.kb_read_door_words_tree pass0 (pdk_cons (pd_var (pv 6)) (pdk_cons (pd_var (pv 3)) (pdk_nil)))) (pda_nil)))) (pd_bl) (nomark _))))) (pds_one (pds_ret (pd_bl))) (pds_nil))))))) (pds_one (pds_ret (pd_bl))))
end
end K74
set_option Elab.async false
set_option linter.all false
set_option maxRecDepth 100000
set_option maxHeartbeats 4000000
namespace K74
open PySem PySem.Spec PyProof.Rows L2 DD
theorem all_mk {l : PySem.W.OpenLaw} {w : World} {K : PySem.W.Frag} {h : Heap} {mg : Str → Option Value} {fa : Addr} (X : K.In h) (G : h.Ns mainGlobals mg) (hfa : mg "law" = some (.ref fa))
    {f0 f1 f2 f3 f4 f5 f6 f7 f8 f9 f10 f11 f12 f13 f14 f15 f16 f17 f18 f19 f20 f21 f22 f23 f24 f25 f26 f27 : Addr}
    {od0 an0 od1 an1 od2 an2 od3 an3 od4 an4 od5 an5 od6 an6 od7 an7 od8 an8 od9 an9 od10 an10 od11 an11 od12 an12 od13 an13 od14 an14 od15 an15 od16 an16 od17 an17 od18 an18 od19 an19 od20 an20 od21 an21 od22 an22 od23 an23 od24 an24 od25 an25 od26 an26 od27 an27 : Option Addr} {sl0 sl1 sl2 sl3 sl4 sl5 sl6 sl7 sl8 sl9 sl10 sl11 sl12 sl13 sl14 sl15 sl16 sl17 sl18 sl19 sl20 sl21 sl22 sl23 sl24 sl25 sl26 sl27 : Array (Option Value)} {oc0 kV0 dc0 pm0 cd0 ct0 oc1 kV1 dc1 pm1 cd1 ct1 oc2 kV2 dc2 pm2 cd2 ct2 oc3 kV3 dc3 pm3 cd3 ct3 oc4 kV4 dc4 pm4 cd4 ct4 oc5 kV5 dc5 pm5 cd5 ct5 oc6 kV6 dc6 pm6 cd6 ct6 oc7 kV7 dc7 pm7 cd7 ct7 oc8 kV8 dc8 pm8 cd8 ct8 oc9 kV9 dc9 pm9 cd9 ct9 oc10 kV10 dc10 pm10 cd10 ct10 oc11 kV11 dc11 pm11 cd11 ct11 oc12 kV12 dc12 pm12 cd12 ct12 oc13 kV13 dc13 pm13 cd13 ct13 oc14 kV14 dc14 pm14 cd14 ct14 oc15 kV15 dc15 pm15 cd15 ct15 oc16 kV16 dc16 pm16 cd16 ct16 oc17 kV17 dc17 pm17 cd17 ct17 oc18 kV18 dc18 pm18 cd18 ct18 oc19 kV19 dc19 pm19 cd19 ct19 oc20 kV20 dc20 pm20 cd20 ct20 oc21 kV21 dc21 pm21 cd21 ct21 oc22 kV22 dc22 pm22 cd22 ct22 oc23 kV23 dc23 pm23 cd23 ct23 oc24 kV24 dc24 pm24 cd24 ct24 oc25 kV25 dc25 pm25 cd25 ct25 oc26 kV26 dc26 pm26 cd26 ct26 oc27 kV27 dc27 pm27 cd27 ct27 : Value}
    {t_LETTERS : Tok}
    (a0 : PySem.W.nsIn K mainGlobals "is_integer" = some (some (.ref f0))) (l0 : K.lookup f0 = some ⟨oc0, od0, .func (PySem.W.fnOf "is_integer" "is_integer" (defArgs s_is_integer) (defBody s_is_integer) (defScope s_is_integer) .none kV0 dc0 pm0 an0 cd0 ct0), sl0⟩) (c0 : PySem.W.codeIn K cd0 "is_integer" = true) (k0 : PySem.W.keepIn K (.ref f0) = true)
    (a1 : PySem.W.nsIn K mainGlobals "is_tree" = some (some (.ref f1))) (l1 : K.lookup f1 = some ⟨oc1, od1, .func (PySem.W.fnOf "is_tree" "is_tree" (defArgs s_is_tree) (defBody s_is_tree) (defScope s_is_tree) .none kV1 dc1 pm1 an1 cd1 ct1), sl1⟩) (c1 : PySem.W.codeIn K cd1 "is_tree" = true) (k1 : PySem.W.keepIn K (.ref f1) = true)
    (a2 : PySem.W.nsIn K mainGlobals "need_tree" = some (some (.ref f2))) (l2 : K.lookup f2 = some ⟨oc2, od2, .func (PySem.W.fnOf "need_tree" "need_tree" (defArgs s_need_tree) (defBody s_need_tree) (defScope s_need_tree) .none kV2 dc2 pm2 an2 cd2 ct2), sl2⟩) (c2 : PySem.W.codeIn K cd2 "need_tree" = true) (k2 : PySem.W.keepIn K (.ref f2) = true)
    (a3 : PySem.W.nsIn K mainGlobals "locale_there" = some (some (.ref f3))) (l3 : K.lookup f3 = some ⟨oc3, od3, .func (PySem.W.fnOf "locale_there" "locale_there" (defArgs s_locale_there) (defBody s_locale_there) (defScope s_locale_there) .none kV3 dc3 pm3 an3 cd3 ct3), sl3⟩) (c3 : PySem.W.codeIn K cd3 "locale_there" = true) (k3 : PySem.W.keepIn K (.ref f3) = true)
    (a4 : PySem.W.nsIn K mainGlobals "wishes_there" = some (some (.ref f4))) (l4 : K.lookup f4 = some ⟨oc4, od4, .func (PySem.W.fnOf "wishes_there" "wishes_there" (defArgs s_wishes_there) (defBody s_wishes_there) (defScope s_wishes_there) .none kV4 dc4 pm4 an4 cd4 ct4), sl4⟩) (c4 : PySem.W.codeIn K cd4 "wishes_there" = true) (k4 : PySem.W.keepIn K (.ref f4) = true)
    (a5 : PySem.W.nsIn K mainGlobals "is_wishes" = some (some (.ref f5))) (l5 : K.lookup f5 = some ⟨oc5, od5, .func (PySem.W.fnOf "is_wishes" "is_wishes" (defArgs s_is_wishes) (defBody s_is_wishes) (defScope s_is_wishes) .none kV5 dc5 pm5 an5 cd5 ct5), sl5⟩) (c5 : PySem.W.codeIn K cd5 "is_wishes" = true) (k5 : PySem.W.keepIn K (.ref f5) = true)
    (a6 : PySem.W.nsIn K mainGlobals "is_spot" = some (some (.ref f6))) (l6 : K.lookup f6 = some ⟨oc6, od6, .func (PySem.W.fnOf "is_spot" "is_spot" (defArgs s_is_spot) (defBody s_is_spot) (defScope s_is_spot) .none kV6 dc6 pm6 an6 cd6 ct6), sl6⟩) (c6 : PySem.W.codeIn K cd6 "is_spot" = true) (k6 : PySem.W.keepIn K (.ref f6) = true)
    (a7 : PySem.W.nsIn K mainGlobals "is_spots" = some (some (.ref f7))) (l7 : K.lookup f7 = some ⟨oc7, od7, .func (PySem.W.fnOf "is_spots" "is_spots" (defArgs s_is_spots) (defBody s_is_spots) (defScope s_is_spots) .none kV7 dc7 pm7 an7 cd7 ct7), sl7⟩) (c7 : PySem.W.codeIn K cd7 "is_spots" = true) (k7 : PySem.W.keepIn K (.ref f7) = true)
    (a8 : PySem.W.nsIn K mainGlobals "is_swaps" = some (some (.ref f8))) (l8 : K.lookup f8 = some ⟨oc8, od8, .func (PySem.W.fnOf "is_swaps" "is_swaps" (defArgs s_is_swaps) (defBody s_is_swaps) (defScope s_is_swaps) .none kV8 dc8 pm8 an8 cd8 ct8), sl8⟩) (c8 : PySem.W.codeIn K cd8 "is_swaps" = true) (k8 : PySem.W.keepIn K (.ref f8) = true)
    (a9 : PySem.W.nsIn K mainGlobals "door_fits" = some (some (.ref f9))) (l9 : K.lookup f9 = some ⟨oc9, od9, .func (PySem.W.fnOf "door_fits" "door_fits" (defArgs s_door_fits) (defBody s_door_fits) (defScope s_door_fits) .none kV9 dc9 pm9 an9 cd9 ct9), sl9⟩) (c9 : PySem.W.codeIn K cd9 "door_fits" = true) (k9 : PySem.W.keepIn K (.ref f9) = true)
    (a10 : PySem.W.nsIn K mainGlobals "is_door" = some (some (.ref f10))) (l10 : K.lookup f10 = some ⟨oc10, od10, .func (PySem.W.fnOf "is_door" "is_door" (defArgs s_is_door) (defBody s_is_door) (defScope s_is_door) .none kV10 dc10 pm10 an10 cd10 ct10), sl10⟩) (c10 : PySem.W.codeIn K cd10 "is_door" = true) (k10 : PySem.W.keepIn K (.ref f10) = true)
    (a11 : PySem.W.nsIn K mainGlobals "locales_written" = some (some (.ref f11))) (l11 : K.lookup f11 = some ⟨oc11, od11, .func (PySem.W.fnOf "locales_written" "locales_written" (defArgs s_locales_written) (defBody s_locales_written) (defScope s_locales_written) .none kV11 dc11 pm11 an11 cd11 ct11), sl11⟩) (c11 : PySem.W.codeIn K cd11 "locales_written" = true) (k11 : PySem.W.keepIn K (.ref f11) = true)
    (a12 : PySem.W.nsIn K mainGlobals "locale_read" = some (some (.ref f12))) (l12 : K.lookup f12 = some ⟨oc12, od12, .func (PySem.W.fnOf "locale_read" "locale_read" (defArgs s_locale_read) (defBody s_locale_read) (defScope s_locale_read) .none kV12 dc12 pm12 an12 cd12 ct12), sl12⟩) (c12 : PySem.W.codeIn K cd12 "locale_read" = true) (k12 : PySem.W.keepIn K (.ref f12) = true)
    (a13 : PySem.W.nsIn K mainGlobals "none_written" = some (some (.ref f13))) (l13 : K.lookup f13 = some ⟨oc13, od13, .func (PySem.W.fnOf "none_written" "none_written" (defArgs s_none_written) (defBody s_none_written) (defScope s_none_written) .none kV13 dc13 pm13 an13 cd13 ct13), sl13⟩) (c13 : PySem.W.codeIn K cd13 "none_written" = true) (k13 : PySem.W.keepIn K (.ref f13) = true)
    (a14 : PySem.W.nsIn K mainGlobals "locales_read" = some (some (.ref f14))) (l14 : K.lookup f14 = some ⟨oc14, od14, .func (PySem.W.fnOf "locales_read" "locales_read" (defArgs s_locales_read) (defBody s_locales_read) (defScope s_locales_read) .none kV14 dc14 pm14 an14 cd14 ct14), sl14⟩) (c14 : PySem.W.codeIn K cd14 "locales_read" = true) (k14 : PySem.W.keepIn K (.ref f14) = true)
    (a15 : PySem.W.nsIn K mainGlobals "pairs_read" = some (some (.ref f15))) (l15 : K.lookup f15 = some ⟨oc15, od15, .func (PySem.W.fnOf "pairs_read" "pairs_read" (defArgs s_pairs_read) (defBody s_pairs_read) (defScope s_pairs_read) .none kV15 dc15 pm15 an15 cd15 ct15), sl15⟩) (c15 : PySem.W.codeIn K cd15 "pairs_read" = true) (k15 : PySem.W.keepIn K (.ref f15) = true)
    (a16 : PySem.W.nsIn K mainGlobals "write_door" = some (some (.ref f16))) (l16 : K.lookup f16 = some ⟨oc16, od16, .func (PySem.W.fnOf "write_door" "write_door" (defArgs s_write_door) (defBody s_write_door) (defScope s_write_door) .none kV16 dc16 pm16 an16 cd16 ct16), sl16⟩) (c16 : PySem.W.codeIn K cd16 "write_door" = true) (k16 : PySem.W.keepIn K (.ref f16) = true)
    (a17 : PySem.W.nsIn K mainGlobals "read_door" = some (some (.ref f17))) (l17 : K.lookup f17 = some ⟨oc17, od17, .func (PySem.W.fnOf "read_door" "read_door" (defArgs s_read_door) (defBody s_read_door) (defScope s_read_door) .none kV17 dc17 pm17 an17 cd17 ct17), sl17⟩) (c17 : PySem.W.codeIn K cd17 "read_door" = true) (k17 : PySem.W.keepIn K (.ref f17) = true)
    (a18 : PySem.W.nsIn K mainGlobals "_law_fill" = some (some (.ref f18))) (l18 : K.lookup f18 = some ⟨oc18, od18, .func (PySem.W.fnOf "_law_fill" "_law_fill" (defArgs s__law_fill) (defBody s__law_fill) (defScope s__law_fill) .none kV18 dc18 pm18 an18 cd18 ct18), sl18⟩) (c18 : PySem.W.codeIn K cd18 "_law_fill" = true) (k18 : PySem.W.keepIn K (.ref f18) = true)
    (a19 : PySem.W.nsIn K mainGlobals "_law_pull" = some (some (.ref f19))) (l19 : K.lookup f19 = some ⟨oc19, od19, .func (PySem.W.fnOf "_law_pull" "_law_pull" (defArgs s__law_pull) (defBody s__law_pull) (defScope s__law_pull) .none kV19 dc19 pm19 an19 cd19 ct19), sl19⟩) (c19 : PySem.W.codeIn K cd19 "_law_pull" = true) (k19 : PySem.W.keepIn K (.ref f19) = true)
    (a20 : PySem.W.nsIn K mainGlobals "_law_some_world" = some (some (.ref f20))) (l20 : K.lookup f20 = some ⟨oc20, od20, .func (PySem.W.fnOf "_law_some_world" "_law_some_world" (defArgs s__law_some_world) (defBody s__law_some_world) (defScope s__law_some_world) .none kV20 dc20 pm20 an20 cd20 ct20), sl20⟩) (c20 : PySem.W.codeIn K cd20 "_law_some_world" = true) (k20 : PySem.W.keepIn K (.ref f20) = true)
    (a21 : PySem.W.nsIn K mainGlobals "_law_up" = some (some (.ref f21))) (l21 : K.lookup f21 = some ⟨oc21, od21, .func (PySem.W.fnOf "_law_up" "_law_up" (defArgs s__law_up) (defBody s__law_up) (defScope s__law_up) .none kV21 dc21 pm21 an21 cd21 ct21), sl21⟩) (c21 : PySem.W.codeIn K cd21 "_law_up" = true) (k21 : PySem.W.keepIn K (.ref f21) = true)
    (a22 : PySem.W.nsIn K mainGlobals "_law_some_asks" = some (some (.ref f22))) (l22 : K.lookup f22 = some ⟨oc22, od22, .func (PySem.W.fnOf "_law_some_asks" "_law_some_asks" (defArgs s__law_some_asks) (defBody s__law_some_asks) (defScope s__law_some_asks) .none kV22 dc22 pm22 an22 cd22 ct22), sl22⟩) (c22 : PySem.W.codeIn K cd22 "_law_some_asks" = true) (k22 : PySem.W.keepIn K (.ref f22) = true)
    (a23 : PySem.W.nsIn K mainGlobals "_law_some_door" = some (some (.ref f23))) (l23 : K.lookup f23 = some ⟨oc23, od23, .func (PySem.W.fnOf "_law_some_door" "_law_some_door" (defArgs s__law_some_door) (defBody s__law_some_door) (defScope s__law_some_door) .none kV23 dc23 pm23 an23 cd23 ct23), sl23⟩) (c23 : PySem.W.codeIn K cd23 "_law_some_door" = true) (k23 : PySem.W.keepIn K (.ref f23) = true)
    (a24 : PySem.W.nsIn K mainGlobals "_law_letters" = some (some (.ref f24))) (l24 : K.lookup f24 = some ⟨oc24, od24, .func (PySem.W.fnOf "_law_letters" "_law_letters" (defArgs s__law_letters) (defBody s__law_letters) (defScope s__law_letters) .none kV24 dc24 pm24 an24 cd24 ct24), sl24⟩) (c24 : PySem.W.codeIn K cd24 "_law_letters" = true) (k24 : PySem.W.keepIn K (.ref f24) = true)
    (a25 : PySem.W.nsIn K mainGlobals "_law_door_words" = some (some (.ref f25))) (l25 : K.lookup f25 = some ⟨oc25, od25, .func (PySem.W.fnOf "_law_door_words" "_law_door_words" (defArgs s__law_door_words) (defBody s__law_door_words) (defScope s__law_door_words) .none kV25 dc25 pm25 an25 cd25 ct25), sl25⟩) (c25 : PySem.W.codeIn K cd25 "_law_door_words" = true) (k25 : PySem.W.keepIn K (.ref f25) = true)
    (a26 : PySem.W.nsIn K mainGlobals "_law_same" = some (some (.ref f26))) (l26 : K.lookup f26 = some ⟨oc26, od26, .func (PySem.W.fnOf "_law_same" "_law_same" (defArgs s__law_same) (defBody s__law_same) (defScope s__law_same) .none kV26 dc26 pm26 an26 cd26 ct26), sl26⟩) (c26 : PySem.W.codeIn K cd26 "_law_same" = true) (k26 : PySem.W.keepIn K (.ref f26) = true)
    (a27 : PySem.W.nsIn K mainGlobals "law" = some (some (.ref f27))) (l27 : K.lookup f27 = some ⟨oc27, od27, .func (PySem.W.fnOf "law" "law" (defArgs s_law) (defBody s_law) (defScope s_law) .none kV27 dc27 pm27 an27 cd27 ct27), sl27⟩) (c27 : PySem.W.codeIn K cd27 "law" = true) (k27 : PySem.W.keepIn K (.ref f27) = true)
    (z_bool : PySem.W.nsIn K mainGlobals "bool" = some none)
    (z_enumerate : PySem.W.nsIn K mainGlobals "enumerate" = some none)
    (z_int : PySem.W.nsIn K mainGlobals "int" = some none)
    (z_isinstance : PySem.W.nsIn K mainGlobals "isinstance" = some none)
    (z_len : PySem.W.nsIn K mainGlobals "len" = some none)
    (z_list : PySem.W.nsIn K mainGlobals "list" = some none)
    (z_max : PySem.W.nsIn K mainGlobals "max" = some none)
    (z_min : PySem.W.nsIn K mainGlobals "min" = some none)
    (z_range : PySem.W.nsIn K mainGlobals "range" = some none)
    (z_repr : PySem.W.nsIn K mainGlobals "repr" = some none)
    (z_str : PySem.W.nsIn K mainGlobals "str" = some none)
    (z_tuple : PySem.W.nsIn K mainGlobals "tuple" = some none)
    (y_LETTERS : PySem.W.nsIn K mainGlobals "LETTERS" = some (some (.str "abcdefghij" t_LETTERS)))
    : ∃ fd : FuncData, (∀ (s : Shared) (v : Value), BindsTo s fd ⟨[v], []⟩ [("script", v)]) ∧ ∀ base : Heap, K.In base → base.Ns mainGlobals mg → FnG l.prog w K mg base CX0 7 fa fd ["script"] (spLaw K run_law) := by
  have e : fa = f27 := by
    have e := hfa.symm.trans (PySem.W.mg_of X G a27)
    cases e
    rfl
  have F0 := fun_mk (st := s_is_integer) l0 c0 k0
  have F1 := fun_mk (st := s_is_tree) l1 c1 k1
  have F2 := fun_mk (st := s_need_tree) l2 c2 k2
  have F3 := fun_mk (st := s_locale_there) l3 c3 k3
  have F4 := fun_mk (st := s_wishes_there) l4 c4 k4
  have F5 := fun_mk (st := s_is_wishes) l5 c5 k5
  have F6 := fun_mk (st := s_is_spot) l6 c6 k6
  have F7 := fun_mk (st := s_is_spots) l7 c7 k7
  have F8 := fun_mk (st := s_is_swaps) l8 c8 k8
  have F9 := fun_mk (st := s_door_fits) l9 c9 k9
  have F10 := fun_mk (st := s_is_door) l10 c10 k10
  have F11 := fun_mk (st := s_locales_written) l11 c11 k11
  have F12 := fun_mk (st := s_locale_read) l12 c12 k12
  have F13 := fun_mk (st := s_none_written) l13 c13 k13
  have F14 := fun_mk (st := s_locales_read) l14 c14 k14
  have F15 := fun_mk (st := s_pairs_read) l15 c15 k15
  have F16 := fun_mk (st := s_write_door) l16 c16 k16
  have F17 := fun_mk (st := s_read_door) l17 c17 k17
  have F18 := fun_mk (st := s__law_fill) l18 c18 k18
  have F19 := fun_mk (st := s__law_pull) l19 c19 k19
  have F20 := fun_mk (st := s__law_some_world) l20 c20 k20
  have F21 := fun_mk (st := s__law_up) l21 c21 k21
  have F22 := fun_mk (st := s__law_some_asks) l22 c22 k22
  have F23 := fun_mk (st := s__law_some_door) l23 c23 k23
  have F24 := fun_mk (st := s__law_letters) l24 c24 k24
  have F25 := fun_mk (st := s__law_door_words) l25 c25 k25
  have F26 := fun_mk (st := s__law_same) l26 c26 k26
  have F27 := fun_mk (st := s_law) l27 c27 k27
  have b0 := F0.binds (ps := ["value"]) fun _ _ _ _ _ _ us hl => match us, hl with | [_], _ => rfl
  have b1 := F1.binds (ps := ["value"]) fun _ _ _ _ _ _ us hl => match us, hl with | [_], _ => rfl
  have b2 := F2.binds (ps := ["tree"]) fun _ _ _ _ _ _ us hl => match us, hl with | [_], _ => rfl
  have b3 := F3.binds (ps := ["tree", "value"]) fun _ _ _ _ _ _ us hl => match us, hl with | [_, _], _ => rfl
  have b4 := F4.binds (ps := ["tree", "value"]) fun _ _ _ _ _ _ us hl => match us, hl with | [_, _], _ => rfl
  have b5 := F5.binds (ps := ["tree", "value"]) fun _ _ _ _ _ _ us hl => match us, hl with | [_, _], _ => rfl
  have b6 := F6.binds (ps := ["tree", "value"]) fun _ _ _ _ _ _ us hl => match us, hl with | [_, _], _ => rfl
  have b7 := F7.binds (ps := ["tree", "value"]) fun _ _ _ _ _ _ us hl => match us, hl with | [_, _], _ => rfl
  have b8 := F8.binds (ps := ["tree", "value"]) fun _ _ _ _ _ _ us hl => match us, hl with | [_, _], _ => rfl
  have b9 := F9.binds (ps := ["tree", "value"]) fun _ _ _ _ _ _ us hl => match us, hl with | [_, _], _ => rfl
  have b10 := F10.binds (ps := ["tree", "value"]) fun _ _ _ _ _ _ us hl => match us, hl with | [_, _], _ => rfl
  have b11 := F11.binds (ps := ["locales"]) fun _ _ _ _ _ _ us hl => match us, hl with | [_], _ => rfl
  have b12 := F12.binds (ps := ["word", "count"]) fun _ _ _ _ _ _ us hl => match us, hl with | [_, _], _ => rfl
  have b13 := F13.binds (ps := ["parts", "first"]) fun _ _ _ _ _ _ us hl => match us, hl with | [_, _], _ => rfl
  have b14 := F14.binds (ps := ["parts", "first", "count", "rising"]) fun _ _ _ _ _ _ us hl => match us, hl with | [_, _, _, _], _ => rfl
  have b15 := F15.binds (ps := ["parts", "first", "count"]) fun _ _ _ _ _ _ us hl => match us, hl with | [_, _, _], _ => rfl
  have b16 := F16.binds (ps := ["tree", "door"]) fun _ _ _ _ _ _ us hl => match us, hl with | [_, _], _ => rfl
  have b17 := F17.binds (ps := ["tree", "words"]) fun _ _ _ _ _ _ us hl => match us, hl with | [_, _], _ => rfl
  have b18 := F18.binds (ps := ["cell"]) fun _ _ _ _ _ _ us hl => match us, hl with | [_], _ => rfl
  have b19 := F19.binds (ps := ["jar", "size"]) fun _ _ _ _ _ _ us hl => match us, hl with | [_, _], _ => rfl
  have b20 := F20.binds (ps := ["jar", "reach"]) fun _ _ _ _ _ _ us hl => match us, hl with | [_, _], _ => rfl
  have b21 := F21.binds (ps := ["world", "spot"]) fun _ _ _ _ _ _ us hl => match us, hl with | [_, _], _ => rfl
  have b22 := F22.binds (ps := ["jar", "world", "reach"]) fun _ _ _ _ _ _ us hl => match us, hl with | [_, _, _], _ => rfl
  have b23 := F23.binds (ps := ["jar", "world"]) fun _ _ _ _ _ _ us hl => match us, hl with | [_, _], _ => rfl
  have b24 := F24.binds (ps := ["spots"]) fun _ _ _ _ _ _ us hl => match us, hl with | [_], _ => rfl
  have b25 := F25.binds (ps := ["gate"]) fun _ _ _ _ _ _ us hl => match us, hl with | [_], _ => rfl
  have b26 := F26.binds (ps := ["told", "due"]) fun _ _ _ _ _ _ us hl => match us, hl with | [_, _], _ => rfl
  have b27 := F27.binds (ps := ["script"]) fun _ _ _ _ _ _ us hl => match us, hl with | [_], _ => rfl
  let T : Tx K mg := { f_is_integer := f0, fd_is_integer := _, F_is_integer := F0, g_is_integer := PySem.W.mg_of X G a0, b_is_integer := b0, f_is_tree := f1, fd_is_tree := _, F_is_tree := F1, g_is_tree := PySem.W.mg_of X G a1, b_is_tree := b1, f_need_tree := f2, fd_need_tree := _, F_need_tree := F2, g_need_tree := PySem.W.mg_of X G a2, b_need_tree := b2, f_locale_there := f3, fd_locale_there := _, F_locale_there := F3, g_locale_there := PySem.W.mg_of X G a3, b_locale_there := b3, f_wishes_there := f4, fd_wishes_there := _, F_wishes_there := F4, g_wishes_there := PySem.W.mg_of X G a4, b_wishes_there := b4, f_is_wishes := f5, fd_is_wishes := _, F_is_wishes := F5, g_is_wishes := PySem.W.mg_of X G a5, b_is_wishes := b5, f_is_spot := f6, fd_is_spot := _, F_is_spot := F6, g_is_spot := PySem.W.mg_of X G a6, b_is_spot := b6, f_is_spots := f7, fd_is_spots := _, F_is_spots := F7, g_is_spots := PySem.W.mg_of X G a7, b_is_spots := b7, f_is_swaps := f8, fd_is_swaps := _, F_is_swaps := F8, g_is_swaps := PySem.W.mg_of X G a8, b_is_swaps := b8, f_door_fits := f9, fd_door_fits := _, F_door_fits := F9, g_door_fits := PySem.W.mg_of X G a9, b_door_fits := b9, f_is_door := f10, fd_is_door := _, F_is_door := F10, g_is_door := PySem.W.mg_of X G a10, b_is_door := b10, f_locales_written := f11, fd_locales_written := _, F_locales_written := F11, g_locales_written := PySem.W.mg_of X G a11, b_locales_written := b11, f_locale_read := f12, fd_locale_read := _, F_locale_read := F12, g_locale_read := PySem.W.mg_of X G a12, b_locale_read := b12, f_none_written := f13, fd_none_written := _, F_none_written := F13, g_none_written := PySem.W.mg_of X G a13, b_none_written := b13, f_locales_read := f14, fd_locales_read := _, F_locales_read := F14, g_locales_read := PySem.W.mg_of X G a14, b_locales_read := b14, f_pairs_read := f15, fd_pairs_read := _, F_pairs_read := F15, g_pairs_read := PySem.W.mg_of X G a15, b_pairs_read := b15, f_write_door := f16, fd_write_door := _, F_write_door := F16, g_write_door := PySem.W.mg_of X G a16, b_write_door := b16, f_read_door := f17, fd_read_door := _, F_read_door := F17, g_read_door := PySem.W.mg_of X G a17, b_read_door := b17, f__law_fill := f18, fd__law_fill := _, F__law_fill := F18, g__law_fill := PySem.W.mg_of X G a18, b__law_fill := b18, f__law_pull := f19, fd__law_pull := _, F__law_pull := F19, g__law_pull := PySem.W.mg_of X G a19, b__law_pull := b19, f__law_some_world := f20, fd__law_some_world := _, F__law_some_world := F20, g__law_some_world := PySem.W.mg_of X G a20, b__law_some_world := b20, f__law_up := f21, fd__law_up := _, F__law_up := F21, g__law_up := PySem.W.mg_of X G a21, b__law_up := b21, f__law_some_asks := f22, fd__law_some_asks := _, F__law_some_asks := F22, g__law_some_asks := PySem.W.mg_of X G a22, b__law_some_asks := b22, f__law_some_door := f23, fd__law_some_door := _, F__law_some_door := F23, g__law_some_door := PySem.W.mg_of X G a23, b__law_some_door := b23, f__law_letters := f24, fd__law_letters := _, F__law_letters := F24, g__law_letters := PySem.W.mg_of X G a24, b__law_letters := b24, f__law_door_words := f25, fd__law_door_words := _, F__law_door_words := F25, g__law_door_words := PySem.W.mg_of X G a25, b__law_door_words := b25, f__law_same := f26, fd__law_same := _, F__law_same := F26, g__law_same := PySem.W.mg_of X G a26, b__law_same := b26, f_law := f27, fd_law := _, F_law := F27, g_law := PySem.W.mg_of X G a27, b_law := b27, kb_read_door_words_tree := ⟨fun _ us ws _ hl => (match us, ws, hl with | [], [_, _], _ => .of_eq rfl), fun h1 h2 => Vals.kw2 h1 h2⟩, kb_write_door_door_tree := ⟨fun _ us ws _ hl => (match us, ws, hl with | [], [_, _], _ => .of_eq rfl), fun h1 h2 => Vals.kw2 h1 h2⟩, m_bool := PySem.W.mg_none_of X G z_bool, m_enumerate := PySem.W.mg_none_of X G z_enumerate, m_int := PySem.W.mg_none_of X G z_int, m_isinstance := PySem.W.mg_none_of X G z_isinstance, m_len := PySem.W.mg_none_of X G z_len, m_list := PySem.W.mg_none_of X G z_list, m_max := PySem.W.mg_none_of X G z_max, m_min := PySem.W.mg_none_of X G z_min, m_range := PySem.W.mg_none_of X G z_range, m_repr := PySem.W.mg_none_of X G z_repr, m_str := PySem.W.mg_none_of X G z_str, m_tuple := PySem.W.mg_none_of X G z_tuple, t_LETTERS := t_LETTERS, c_LETTERS := PySem.W.mg_of X G y_LETTERS }
  rw [e]
  exact ⟨T.fd_law, fun s v => .of_eq rfl, fun base _ _ => ok_law T⟩
end K74
open PySem PySem.W PyProof.Rows
set_option maxHeartbeats 0 in
theorem PySem.Challenge.cw_wishedtongues_k74_doors_as_words_holds : PySem.Challenge.rw_wishedtongues_k74_doors_as_words.Holds := by
  w_on; o_law; k_head; (case hw => w_witness2)
  k_fill
  refine DD.walkG (l := PySem.Challenge.rw_wishedtongues_k74_doors_as_words) (n := 63) (k := 7) (x := "script") (Fl := K74.run_law) rfl (by decide) rfl ⟨rfl, by decide, by decide⟩ (fun w h Y => PySem.W.kIn_of Y) ?F K74.law_true
  case F =>
    intro w mg fa h KX G hmg
    refine' K74.all_mk KX G hmg ?a0 ?l0 ?c0 ?k0 ?a1 ?l1 ?c1 ?k1 ?a2 ?l2 ?c2 ?k2 ?a3 ?l3 ?c3 ?k3 ?a4 ?l4 ?c4 ?k4 ?a5 ?l5 ?c5 ?k5 ?a6 ?l6 ?c6 ?k6 ?a7 ?l7 ?c7 ?k7 ?a8 ?l8 ?c8 ?k8 ?a9 ?l9 ?c9 ?k9 ?a10 ?l10 ?c10 ?k10 ?a11 ?l11 ?c11 ?k11 ?a12 ?l12 ?c12 ?k12 ?a13 ?l13 ?c13 ?k13 ?a14 ?l14 ?c14 ?k14 ?a15 ?l15 ?c15 ?k15 ?a16 ?l16 ?c16 ?k16 ?a17 ?l17 ?c17 ?k17 ?a18 ?l18 ?c18 ?k18 ?a19 ?l19 ?c19 ?k19 ?a20 ?l20 ?c20 ?k20 ?a21 ?l21 ?c21 ?k21 ?a22 ?l22 ?c22 ?k22 ?a23 ?l23 ?c23 ?k23 ?a24 ?l24 ?c24 ?k24 ?a25 ?l25 ?c25 ?k25 ?a26 ?l26 ?c26 ?k26 ?a27 ?l27 ?c27 ?k27 ?z_bool ?z_enumerate ?z_int ?z_isinstance ?z_len ?z_list ?z_max ?z_min ?z_range ?z_repr ?z_str ?z_tuple ?y_LETTERS
    (case a0 => k_is); (case l0 => k_is); (case c0 => k_is); (case k0 => k_is); (case a1 => k_is); (case l1 => k_is); (case c1 => k_is); (case k1 => k_is); (case a2 => k_is); (case l2 => k_is); (case c2 => k_is); (case k2 => k_is); (case a3 => k_is); (case l3 => k_is); (case c3 => k_is); (case k3 => k_is); (case a4 => k_is); (case l4 => k_is); (case c4 => k_is); (case k4 => k_is); (case a5 => k_is); (case l5 => k_is); (case c5 => k_is); (case k5 => k_is); (case a6 => k_is); (case l6 => k_is); (case c6 => k_is); (case k6 => k_is); (case a7 => k_is); (case l7 => k_is); (case c7 => k_is); (case k7 => k_is); (case a8 => k_is); (case l8 => k_is); (case c8 => k_is); (case k8 => k_is); (case a9 => k_is); (case l9 => k_is); (case c9 => k_is); (case k9 => k_is); (case a10 => k_is); (case l10 => k_is); (case c10 => k_is); (case k10 => k_is); (case a11 => k_is); (case l11 => k_is); (case c11 => k_is); (case k11 => k_is); (case a12 => k_is); (case l12 => k_is); (case c12 => k_is); (case k12 => k_is); (case a13 => k_is); (case l13 => k_is); (case c13 => k_is); (case k13 => k_is); (case a14 => k_is); (case l14 => k_is); (case c14 => k_is); (case k14 => k_is); (case a15 => k_is); (case l15 => k_is); (case c15 => k_is); (case k15 => k_is); (case a16 => k_is); (case l16 => k_is); (case c16 => k_is); (case k16 => k_is); (case a17 => k_is); (case l17 => k_is); (case c17 => k_is); (case k17 => k_is); (case a18 => k_is); (case l18 => k_is); (case c18 => k_is); (case k18 => k_is); (case a19 => k_is); (case l19 => k_is); (case c19 => k_is); (case k19 => k_is); (case a20 => k_is); (case l20 => k_is); (case c20 => k_is); (case k20 => k_is); (case a21 => k_is); (case l21 => k_is); (case c21 => k_is); (case k21 => k_is); (case a22 => k_is); (case l22 => k_is); (case c22 => k_is); (case k22 => k_is); (case a23 => k_is); (case l23 => k_is); (case c23 => k_is); (case k23 => k_is); (case a24 => k_is); (case l24 => k_is); (case c24 => k_is); (case k24 => k_is); (case a25 => k_is); (case l25 => k_is); (case c25 => k_is); (case k25 => k_is); (case a26 => k_is); (case l26 => k_is); (case c26 => k_is); (case k26 => k_is); (case a27 => k_is); (case l27 => k_is); (case c27 => k_is); (case k27 => k_is); (case z_bool => k_is); (case z_enumerate => k_is); (case z_int => k_is); (case z_isinstance => k_is); (case z_len => k_is); (case z_list => k_is); (case z_max => k_is); (case z_min => k_is); (case z_range => k_is); (case z_repr => k_is); (case z_str => k_is); (case z_tuple => k_is); (case y_LETTERS => k_is)
