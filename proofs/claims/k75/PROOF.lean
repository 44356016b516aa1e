import PyProof.Rows.All
import HandS.ForMost
import HandS.TupAny
import HandS.IsInst
import HandS.StrMore
import HandS.Evl
import PyProof.ReprReads
import HandS.Replace
import PyProof.ReprRoads
import HandS.TupMul
import HandS.TupLe
import HandS.RaiseMore
import PyProof.Draws
import PyProof.EnumMake
import HandS.FStr
import HandS.ForExc
import HandS.ExcInit
import HandS.ExcField
import HandS.ExcIs
import KE.KExcIs
import PyProof.ReprLen
import HandS.Style
import PyProof.StrOps2
import PySem.Challenge.RW_wishedtongues_k75_words_that_cannot_stan
set_option Elab.async false
set_option linter.all false
set_option maxRecDepth 100000
set_option maxHeartbeats 2000000
/-! DD: denotations. Each expression, statement and def of the text is read as a plain Lean function over data. -/
namespace DD
open PySem PySem.Spec PyProof.Rows L2

abbrev D := PyData
abbrev Ex := Evl.Ex
theorem Ex.refl (H : Hp) : Ex H H := fun _ _ h => h
theorem Ex.trans {H H1 H2 : Hp} (a : Ex H H1) (b : Ex H1 H2) : Ex H H2 := fun x o h => b x o (a x o h)
theorem Ex.new {H : Hp} {p : Addr} {o : HO} (h : H p = none) : Ex H (upd H p o) := Evl.Ex.new h

/-- the heap without the lists at T -/
def out (T : List Addr) (H : Hp) : Hp := fun b => if b ∈ T then none else H b
theorem out_ex {T : List Addr} {H : Hp} : Ex (out T H) H := fun a o h => by
  unfold out at h
  split at h
  · cases h
  · exact h
theorem out_not {T : List Addr} {H : Hp} {b : Addr} (h : b ∉ T) : out T H b = H b := by
  unfold out; rw [if_neg h]
theorem out_some {T : List Addr} {H : Hp} {b : Addr} {o : HO} (h : out T H b = some o) : b ∉ T ∧ H b = some o := by
  unfold out at h
  split at h
  · cases h
  · rename_i hn; exact ⟨hn, h⟩
theorem out_nil {H : Hp} : out [] H = H := by
  funext b; unfold out; simp

/-! ### data -/
/-- an exception at a, of the class cls, its dict at d -/
def exH (a : Addr) (cls : Value) (d : Option Addr) : HO := .ext fun h => ∃ o vs, h.get? a = some o ∧ o.cls = cls ∧ o.dict = d ∧ o.data = .fields vs
mutual
inductive Dd (K : PySem.W.Frag) (H : Hp) : V → D → Prop
  | non : Dd K H .non .none
  | bl (b : Bool) : Dd K H (.bl b) (.bool b)
  | int (i : Int) : Dd K H (.int i) (.int i)
  | str (x : Str) : Dd K H (.str x) (.str x)
  | lst {a : Addr} {xs : List V} {ds : List D} : H a = some (.lst xs) → DdAll K H xs ds → Dd K H (.ref a) (.list ds)
  | tup {a : Addr} {xs : List V} {ds : List D} : SqT K H a xs → DdAll K H xs ds → Dd K H (.ref a) (.tuple ds)
  | exc {a C : Addr} {n : Str} : PySem.W.nsIn K mainGlobals n = some (some (.ref C)) → H a = some (exH a (.ref C) none) → Dd K H (.ref a) (.dict [(.str n, .none)])
  | exf {a C dd : Addr} {n f : Str} {x : V} {v : D} : PySem.W.nsIn K mainGlobals n = some (some (.ref C)) → H a = some (exH a (.ref C) (some dd)) → H dd = some (.xd [(f, x)]) → Dd K H x v → Dd K H (.ref a) (.dict [(.str n, .str f), (.str f, v)])
inductive DdAll (K : PySem.W.Frag) (H : Hp) : List V → List D → Prop
  | nil : DdAll K H [] []
  | cons {v : V} {vs : List V} {d : D} {ds : List D} : Dd K H v d → DdAll K H vs ds → DdAll K H (v :: vs) (d :: ds)
end
mutual
theorem Dd.mono {K : PySem.W.Frag} {H H' : Hp} (e : Ex H H') : ∀ {v : V} {d : D}, Dd K H v d → Dd K H' v d
  | _, _, .non => .non
  | _, _, .bl b => .bl b
  | _, _, .int i => .int i
  | _, _, .str x => .str x
  | _, _, .lst h hs => .lst (e _ _ h) (DdAll.mono e hs)
  | _, _, .tup h hs => .tup (Evl.ex_t e h) (DdAll.mono e hs)
  | _, _, .exc n h => .exc n (e _ _ h)
  | _, _, .exf n h hd hx => .exf n (e _ _ h) (e _ _ hd) (Dd.mono e hx)
theorem DdAll.mono {K : PySem.W.Frag} {H H' : Hp} (e : Ex H H') : ∀ {v : List V} {d : List D}, DdAll K H v d → DdAll K H' v d
  | _, _, .nil => .nil
  | _, _, .cons h hs => .cons (Dd.mono e h) (DdAll.mono e hs)
end
mutual
theorem Dd.dp {K : PySem.W.Frag} {H : Hp} : ∀ {v : V} {d : D}, PyData.hasDict d = false → Dd K H v d → Dp K H v d
  | _, _, _, .non => .non
  | _, _, _, .bl b => .bl b
  | _, _, _, .int i => .int i
  | _, _, _, .str x => .str x
  | _, _, z, .lst h hs => .lst (SqL.of h) (DdAll.dp (by simpa only [PyData.hasDict] using z) hs)
  | _, _, z, .tup h hs => .tup h (DdAll.dp (by simpa only [PyData.hasDict] using z) hs)
  | _, _, z, .exc _ _ => by simp only [PyData.hasDict] at z; cases z
  | _, _, z, .exf _ _ _ _ => by simp only [PyData.hasDict] at z; cases z
theorem DdAll.dp {K : PySem.W.Frag} {H : Hp} : ∀ {v : List V} {d : List D}, PyData.hasDictAll d = false → DdAll K H v d → DpAll K H v d
  | _, _, _, .nil => .nil
  | _, _, z, .cons h hs => by
    simp only [PyData.hasDictAll, Bool.or_eq_false_iff] at z
    exact .cons (Dd.dp z.1 h) (DdAll.dp z.2 hs)
end
section
variable {K : PySem.W.Frag} {H : Hp}
theorem DdAll.length : ∀ {xs : List V} {ds : List D}, DdAll K H xs ds → xs.length = ds.length
  | _, _, .nil => rfl
  | _, _, .cons _ h => by rw [List.length_cons, List.length_cons, h.length]
theorem DdAll.append : ∀ {xs ys : List V} {ds es : List D}, DdAll K H xs ds → DdAll K H ys es → DdAll K H (xs ++ ys) (ds ++ es)
  | _, _, _, _, .nil, h => h
  | _, _, _, _, .cons h t, h' => .cons h (t.append h')
theorem DdAll.get : ∀ {xs : List V} {ds : List D} {i : Nat} {d : D}, DdAll K H xs ds → ds[i]? = some d → ∃ v, xs[i]? = some v ∧ Dd K H v d
  | _, _, _, _, .nil, e => by simp at e
  | _, _, 0, _, .cons r _, e => by simp at e; subst e; exact ⟨_, rfl, r⟩
  | _, _, i + 1, _, .cons _ t, e => by
    obtain ⟨v, h1, h2⟩ := DdAll.get (i := i) t (by simpa using e)
    exact ⟨v, by simpa using h1, h2⟩
theorem DdAll.getV : ∀ {xs : List V} {ds : List D} {i : Nat} {v : V}, DdAll K H xs ds → xs[i]? = some v → ∃ d, ds[i]? = some d ∧ Dd K H v d
  | _, _, _, _, .nil, e => by simp at e
  | _, _, 0, _, .cons r _, e => by simp at e; subst e; exact ⟨_, rfl, r⟩
  | _, _, i + 1, _, .cons _ t, e => by
    obtain ⟨v, h1, h2⟩ := DdAll.getV (i := i) t (by simpa using e)
    exact ⟨v, by simpa using h1, h2⟩
theorem DdAll.drop : ∀ {xs : List V} {ds : List D} (n : Nat), DdAll K H xs ds → DdAll K H (xs.drop n) (ds.drop n)
  | _, _, 0, h => h
  | _, _, _ + 1, .nil => .nil
  | _, _, n + 1, .cons _ t => DdAll.drop n t
theorem DdAll.take : ∀ {xs : List V} {ds : List D} (n : Nat), DdAll K H xs ds → DdAll K H (xs.take n) (ds.take n)
  | _, _, 0, _ => .nil
  | _, _, _ + 1, .nil => .nil
  | _, _, n + 1, .cons r t => .cons r (DdAll.take n t)
theorem DdAll.set {v : V} {d : D} (r : Dd K H v d) : ∀ {xs : List V} {ds : List D} (i : Nat), DdAll K H xs ds → DdAll K H (xs.set i v) (ds.set i d)
  | _, _, _, .nil => .nil
  | _, _, 0, .cons _ t => .cons r t
  | _, _, i + 1, .cons q t => .cons q (DdAll.set r i t)
theorem DdAll.reverse {xs : List V} {ds : List D} (h : DdAll K H xs ds) : DdAll K H xs.reverse ds.reverse := by
  induction h using DdAll.rec (motive_1 := fun _ _ _ => True) with
  | nil => exact .nil
  | cons r t _ ih => rw [List.reverse_cons, List.reverse_cons]; exact ih.append (.cons r .nil)
  | _ => trivial
theorem DdAll.rep {xs : List V} {ds : List D} (h : DdAll K H xs ds) : ∀ k : Nat, DdAll K H (List.replicate k xs).flatten (List.replicate k ds).flatten
  | 0 => .nil
  | k + 1 => by
    rw [List.replicate_succ, List.replicate_succ, List.flatten_cons, List.flatten_cons]
    exact h.append (DdAll.rep h k)
theorem DdAll.strs : ∀ {ss : List Str}, DdAll K H (ss.map V.str) (ss.map PyData.str)
  | [] => .nil
  | _ :: _ => .cons (.str _) DdAll.strs
theorem DdAll.ints : ∀ {ss : List Int}, DdAll K H (ss.map V.int) (ss.map PyData.int)
  | [] => .nil
  | _ :: _ => .cons (.int _) DdAll.ints
end

/-! ### immutable data -/
mutual
def im : D → Bool
  | .none => true
  | .bool _ => true
  | .int _ => true
  | .str _ => true
  | .tuple xs => imAll xs
  | .list _ => false
  | .dict _ => false
def imAll : List D → Bool
  | [] => true
  | x :: xs => im x && imAll xs
end
/-- what stands at T are lists -/
def TL (T : List Addr) (H : Hp) : Prop := ∀ b ∈ T, ∃ xs, H b = some (.lst xs)
theorem sqT_out {K : PySem.W.Frag} {T : List Addr} {H : Hp} {a : Addr} {xs : List V} (t : TL T H) (h : SqT K H a xs) : SqT K (out T H) a xs := by
  rcases h with h | h
  · left
    have hn : ∀ o, H a = some o → (∀ ys, o ≠ .lst ys) → a ∉ T := fun o e n hm => by
      obtain ⟨ys, e2⟩ := t a hm
      rw [e] at e2; cases e2; exact n ys rfl
    rcases h with h | ⟨o, h⟩
    · left; rw [out_not (hn _ h (fun _ z => nomatch z))]; exact h
    · right; exact ⟨o, by rw [out_not (hn _ h (fun _ z => nomatch z))]; exact h⟩
  · exact .inr h
mutual
theorem Dd.imOut {K : PySem.W.Frag} {T : List Addr} {H : Hp} (t : TL T H) : ∀ {v : V} {d : D}, Dd K H v d → im d = true → Dd K (out T H) v d
  | _, _, .non, _ => .non
  | _, _, .bl b, _ => .bl b
  | _, _, .int i, _ => .int i
  | _, _, .str x, _ => .str x
  | _, _, .lst _ _, h => by simp [im] at h
  | _, _, .tup h hs, hi => .tup (sqT_out t h) (DdAll.imOut t hs (by simpa [im] using hi))
theorem DdAll.imOut {K : PySem.W.Frag} {T : List Addr} {H : Hp} (t : TL T H) : ∀ {v : List V} {d : List D}, DdAll K H v d → imAll d = true → DdAll K (out T H) v d
  | _, _, .nil, _ => .nil
  | _, _, .cons h hs, hi => by
    rw [imAll, Bool.and_eq_true] at hi
    exact .cons (Dd.imOut t h hi.1) (DdAll.imOut t hs hi.2)
end

/-! ### steps of the heap -/
structure Stp (T : List Addr) (H H' : Hp) : Prop where
  keep : ∀ b o, b ∉ T → H b = some o → H' b = some o
  there : ∀ b, H b ≠ none → H' b ≠ none
theorem Stp.refl (T : List Addr) (H : Hp) : Stp T H H := ⟨fun _ _ _ h => h, fun _ h => h⟩
theorem Stp.trans {T : List Addr} {H H1 H2 : Hp} (a : Stp T H H1) (b : Stp T H1 H2) : Stp T H H2 := ⟨fun c o n h => b.keep c o n (a.keep c o n h), fun c h => b.there c (a.there c h)⟩
theorem Stp.of_ex {T : List Addr} {H H' : Hp} (e : Ex H H') : Stp T H H' := ⟨fun b o _ h => e b o h, fun b h => by
  cases q : H b with
  | none => exact absurd q h
  | some o => rw [e b o q]; exact fun z => nomatch z⟩
theorem Stp.out {T : List Addr} {H H' : Hp} (s : Stp T H H') : Ex (DD.out T H) (DD.out T H') := fun a o h => by
  obtain ⟨n, e⟩ := out_some h
  rw [out_not n]; exact s.keep a o n e
theorem Stp.back {T : List Addr} {H H' : Hp} (s : Stp T H H') {p : Addr} (h : H' p = none) : H p = none := by
  cases q : H p with
  | none => rfl
  | some o => exact absurd h (s.there p (by rw [q]; exact fun z => nomatch z))

/-! ### values of expressions -/
inductive A where
  | dat (d : D)
  | tmp (ds : List D)
  | ref (k : Nat)
inductive S where
  | un
  | dat (d : D)
  | ref (k : Nat)
  | scr (ns : List Int)
abbrev IO := List (List D)
def VOk (K : PySem.W.Frag) (T : List Addr) (H H' : Hp) (v : V) : A → Prop
  | .dat d => Dd K (out T H') v d
  | .tmp ds => ∃ p xs, v = .ref p ∧ H p = none ∧ p ∉ T ∧ H' p = some (.lst xs) ∧ DdAll K (out T H') xs ds
  | .ref k => ∃ p, T[k]? = some p ∧ v = .ref p
inductive VOkAll (K : PySem.W.Frag) (T : List Addr) (H H' : Hp) : List V → List A → Prop
  | nil : VOkAll K T H H' [] []
  | cons {v : V} {a : A} {vs : List V} {as : List A} : VOk K T H H' v a → VOkAll K T H H' vs as → VOkAll K T H H' (v :: vs) (a :: as)
structure IoOk (K : PySem.W.Frag) (T : List Addr) (io : IO) (H : Hp) : Prop where
  nd : T.Nodup
  len : T.length = io.length
  at_ : ∀ (k : Nat) (p : Addr), T[k]? = some p → ∃ ds xs, io[k]? = some ds ∧ H p = some (.lst xs) ∧ DdAll K (out T H) xs ds ∧ imAll ds = true
def SOk (K : PySem.W.Frag) (T : List Addr) (H : Hp) (o : Option (Option V)) : S → Prop
  | .un => True
  | .dat d => ∃ v, o = some (some v) ∧ Dd K (out T H) v d
  | .ref k => ∃ p, T[k]? = some p ∧ o = some (some (.ref p))
  | .scr ns => ∃ a, o = some (some (.ref a)) ∧ SqL K (out T H) a (ns.map V.int)
structure Rel (K : PySem.W.Frag) (T : List Addr) (σ : L2.St) (sl : List S) (io : IO) (H : Hp) : Prop where
  len : σ.length = sl.length
  slot : ∀ (i : Nat) (s : S), sl[i]? = some s → SOk K T H σ[i]? s
  io : IoOk K T io H
def vw (io : IO) : A → Option D
  | .dat d => some d
  | .tmp ds => some (.list ds)
  | .ref k => io[k]?.map .list
/-- a view: the value is d; a list of it may be one of T's own, its items are not -/
def VwOk (K : PySem.W.Frag) (T : List Addr) (H : Hp) (v : V) (d : D) : Prop :=
  Dd K (out T H) v d ∨ ∃ p xs ds, p ∈ T ∧ v = .ref p ∧ d = .list ds ∧ H p = some (.lst xs) ∧ DdAll K (out T H) xs ds

section
variable {K : PySem.W.Frag} {T : List Addr} {H H0 H1 H2 H' : Hp} {v : V} {a : A} {io io' : IO} {σ : L2.St} {sl : List S} {d : D} {ds : List D}
theorem VOk.mono (h : VOk K T H0 H1 v a) (s : Stp T H1 H2) : VOk K T H0 H2 v a := by
  cases a with
  | dat d => exact Dd.mono s.out h
  | tmp ds => obtain ⟨p, xs, e, n, nt, hp, hd⟩ := h; exact ⟨p, xs, e, n, nt, s.keep _ _ nt hp, hd.mono s.out⟩
  | ref k => exact h
theorem VOk.back (s : Stp T H0 H1) (h : VOk K T H1 H2 v a) : VOk K T H0 H2 v a := by
  cases a with
  | dat d => exact h
  | tmp ds => obtain ⟨p, xs, e, n, nt, hp, hd⟩ := h; exact ⟨p, xs, e, s.back n, nt, hp, hd⟩
  | ref k => exact h
theorem VOkAll.mono (s : Stp T H1 H2) : ∀ {vs : List V} {as : List A}, VOkAll K T H0 H1 vs as → VOkAll K T H0 H2 vs as
  | _, _, .nil => .nil
  | _, _, .cons h t => .cons (h.mono s) (t.mono s)
theorem VOkAll.back (s : Stp T H0 H1) : ∀ {vs : List V} {as : List A}, VOkAll K T H1 H2 vs as → VOkAll K T H0 H2 vs as
  | _, _, .nil => .nil
  | _, _, .cons h t => .cons (h.back s) (t.back s)
theorem IoOk.mem (h : IoOk K T io H) {p : Addr} (hp : p ∈ T) : ∃ k : Nat, T[k]? = some p := List.mem_iff_getElem?.mp hp
theorem IoOk.tl (h : IoOk K T io H) : TL T H := fun b hb => by
  obtain ⟨k, e⟩ := h.mem hb
  obtain ⟨_, xs, _, e2, _⟩ := h.at_ k b e
  exact ⟨xs, e2⟩
theorem IoOk.fresh (h : IoOk K T io H) {p : Addr} (n : H p = none) : p ∉ T := fun hm => by
  obtain ⟨xs, e⟩ := h.tl p hm
  rw [n] at e; cases e
theorem IoOk.ex (h : IoOk K T io H) (e : Ex H H') : IoOk K T io H' := ⟨h.nd, h.len, fun k p hp => by
  obtain ⟨ds, xs, e1, e2, e3, e4⟩ := h.at_ k p hp
  exact ⟨ds, xs, e1, e _ _ e2, e3.mono (Stp.of_ex e).out, e4⟩⟩
theorem SOk.step {o : Option (Option V)} {s : S} (h : SOk K T H o s) (st : Stp T H H') : SOk K T H' o s := by
  cases s with
  | un => trivial
  | dat d => obtain ⟨v, e, hd⟩ := h; exact ⟨v, e, hd.mono st.out⟩
  | ref k => exact h
  | scr ns => obtain ⟨a, e, hd⟩ := h; exact ⟨a, e, Evl.ex_l st.out hd⟩
theorem Rel.step (h : Rel K T σ sl io H) (s : Stp T H H') (i : IoOk K T io' H') : Rel K T σ sl io' H' :=
  ⟨h.len, fun j sj e => (h.slot j sj e).step s, i⟩
theorem vw_ok (h : VOk K T H0 H v a) (i : IoOk K T io H) (e : vw io a = some d) : VwOk K T H v d := by
  cases a with
  | dat d' => cases e; exact .inl h
  | tmp ds =>
    cases e
    obtain ⟨p, xs, rfl, n, nt, hp, hd⟩ := h
    exact .inl (.lst (by rw [out_not nt]; exact hp) hd)
  | ref k =>
    obtain ⟨p, ep, rfl⟩ := h
    obtain ⟨ds, xs, e1, e2, e3, _⟩ := i.at_ k p ep
    rw [vw, e1] at e
    cases e
    exact .inr ⟨p, xs, ds, List.mem_iff_getElem?.mpr ⟨k, ep⟩, rfl, rfl, e2, e3⟩
theorem VwOk.dd (h : VwOk K T H v d) : Dd K H v d := by
  rcases h with h | ⟨p, xs, ds, _, rfl, rfl, e, hd⟩
  · exact h.mono out_ex
  · exact .lst e (hd.mono out_ex)
theorem VwOk.int {i : Int} (h : VwOk K T H v (.int i)) : v = .int i := by
  rcases h with h | ⟨_, _, _, _, _, e, _⟩
  · cases h; rfl
  · cases e
theorem VwOk.bl {i : Bool} (h : VwOk K T H v (.bool i)) : v = .bl i := by
  rcases h with h | ⟨_, _, _, _, _, e, _⟩
  · cases h; rfl
  · cases e
theorem VwOk.non (h : VwOk K T H v .none) : v = .non := by
  rcases h with h | ⟨_, _, _, _, _, e, _⟩
  · cases h; rfl
  · cases e
theorem VwOk.str {i : Str} (h : VwOk K T H v (.str i)) : v = .str i := by
  rcases h with h | ⟨_, _, _, _, _, e, _⟩
  · cases h; rfl
  · cases e
theorem VwOk.tup (h : VwOk K T H v (.tuple ds)) : ∃ p xs, v = .ref p ∧ SqT K (out T H) p xs ∧ DdAll K (out T H) xs ds := by
  rcases h with h | ⟨_, _, _, _, _, e, _⟩
  · cases h with
    | tup h1 h2 => exact ⟨_, _, rfl, h1, h2⟩
  · cases e
theorem VwOk.lst (h : VwOk K T H v (.list ds)) : ∃ p xs, v = .ref p ∧ H p = some (.lst xs) ∧ DdAll K (out T H) xs ds := by
  rcases h with h | ⟨p, xs, ds', _, rfl, e, hp, hd⟩
  · cases h with
    | lst h1 h2 => exact ⟨_, _, rfl, out_ex _ _ h1, h2⟩
  · cases e; exact ⟨p, xs, rfl, hp, hd⟩
end

/-! ### the denotations and their readings -/
abbrev DE := List S → IO → Option (A × IO)
abbrev DT := List S → IO → Option (Bool × IO)
abbrev DA := List S → IO → Option (List A × IO)
inductive R where
  | nx (sl : List S) (io : IO)
  | bk (sl : List S) (io : IO)
  | ct (sl : List S) (io : IO)
  | rt (a : A) (io : IO)
abbrev DS := List S → IO → Option R
section
variable (K : PySem.W.Frag)
def tE (f : DE) : TE := fun σ H Q => ∃ T sl io, Rel K T σ sl io H ∧ ∃ a io', f sl io = some (a, io') ∧ ∀ v H', Stp T H H' → IoOk K T io' H' → VOk K T H H' v a → Q v H'
def tT (f : DT) : TT := fun σ H Q => ∃ T sl io, Rel K T σ sl io H ∧ ∃ b io', f sl io = some (b, io') ∧ ∀ H', Stp T H H' → IoOk K T io' H' → Q b H'
def tA (f : DA) : TA := fun σ H Q => ∃ T sl io, Rel K T σ sl io H ∧ ∃ as io', f sl io = some (as, io') ∧ ∀ vs H', Stp T H H' → IoOk K T io' H' → VOkAll K T H H' vs as → Q vs H'
end
/-- the frame of a statement: T may grow by new lists -/
structure Fr (T : List Addr) (H : Hp) (T' : List Addr) (H' : Hp) : Prop where
  pre : ∃ n, T' = T ++ n
  new : ∀ p ∈ T', p ∈ T ∨ H p = none
  keep : ∀ b o, b ∉ T → H b = some o → H' b = some o
  there : ∀ b, H b ≠ none → H' b ≠ none
theorem Fr.refl (T : List Addr) (H : Hp) : Fr T H T H := ⟨⟨[], by simp⟩, fun _ h => .inl h, fun _ _ _ h => h, fun _ h => h⟩
theorem Fr.of_stp {T : List Addr} {H H' : Hp} (s : Stp T H H') : Fr T H T H' := ⟨⟨[], by simp⟩, fun _ h => .inl h, s.keep, s.there⟩
theorem Fr.trans {T T1 T2 : List Addr} {H H1 H2 : Hp} (a : Fr T H T1 H1) (b : Fr T1 H1 T2 H2) : Fr T H T2 H2 := by
  have nb : ∀ p, H1 p = none → H p = none := fun p h => by
    cases q : H p with
    | none => rfl
    | some o => exact absurd h (a.there p (by rw [q]; exact fun z => nomatch z))
  refine ⟨?_, fun p hp => ?_, fun c o n h => ?_, fun c h => b.there c (a.there c h)⟩
  · obtain ⟨n, e⟩ := a.pre
    obtain ⟨m, e2⟩ := b.pre
    exact ⟨n ++ m, by rw [e2, e, List.append_assoc]⟩
  · rcases b.new p hp with h | h
    · exact a.new p h
    · exact .inr (nb p h)
  · refine b.keep c o (fun hc => ?_) (a.keep c o n h)
    rcases a.new c hc with z | z
    · exact n z
    · rw [h] at z; cases z
theorem Fr.stp {T T' : List Addr} {H H' : Hp} (a : Fr T H T' H') : Stp T H H' := ⟨a.keep, a.there⟩
section
variable (K : PySem.W.Frag)
/-- what a statement's end wants, by its denotation's result -/
def RtOk (T : List Addr) (H : Hp) (D : Ends) : R → Prop
  | .nx sl io => ∀ T' σ H', Rel K T' σ sl io H' → Fr T H T' H' → D.nx σ H'
  | .bk sl io => ∀ T' σ H', Rel K T' σ sl io H' → Fr T H T' H' → D.bk σ H'
  | .ct sl io => ∀ T' σ H', Rel K T' σ sl io H' → Fr T H T' H' → D.ct σ H'
  | .rt a io => ∀ T' v H', IoOk K T' io H' → Fr T H T' H' → VOk K T' H H' v a → D.rt v H'
def tS (f : DS) : TS := fun D σ H => ∃ T sl io, Rel K T σ sl io H ∧ ∃ r, f sl io = some r ∧ RtOk K T H D r
end
theorem RtOk.fr {K : PySem.W.Frag} {T T1 : List Addr} {H H1 : Hp} {D : Ends} {r : R} (h : RtOk K T H D r) (f : Fr T H T1 H1) : RtOk K T1 H1 D r := by
  have nb : ∀ p, H1 p = none → H p = none := fun p h => by
    cases q : H p with
    | none => rfl
    | some o => exact absurd h (f.there p (by rw [q]; exact fun z => nomatch z))
  cases r with
  | nx sl io => exact fun T' σ H' hr hf => h T' σ H' hr (f.trans hf)
  | bk sl io => exact fun T' σ H' hr hf => h T' σ H' hr (f.trans hf)
  | ct sl io => exact fun T' σ H' hr hf => h T' σ H' hr (f.trans hf)
  | rt a io =>
    refine fun T' v H' hi hf hv => h T' v H' hi (f.trans hf) ?_
    cases a with
    | dat d => exact hv
    | tmp ds => obtain ⟨p, xs, e, n, r⟩ := hv; exact ⟨p, xs, e, nb p n, r⟩
    | ref k => exact hv

/-! ### weakening -/
theorem PE.imp {X : Cx} {e : Expr} {t t' : TE} (h : PE X e t) (hi : ∀ σ H Q, t' σ H Q → t σ H Q) : PE X e t' := ⟨fun pins s σ H Q I q => h.run pins s σ H Q I (hi σ H Q q)⟩
theorem PT.imp {X : Cx} {e : Expr} {t t' : TT} (h : PT X e t) (hi : ∀ σ H Q, t' σ H Q → t σ H Q) : PT X e t' := ⟨fun pins s σ H Q I q => h.run pins s σ H Q I (hi σ H Q q)⟩
theorem PA.imp {X : Cx} {e : List Expr} {t t' : TA} (h : PA X e t) (hi : ∀ σ H Q, t' σ H Q → t σ H Q) : PA X e t' := ⟨fun pos pins s σ H Q I q => h.run pos pins s σ H Q I (hi σ H Q q)⟩
theorem PS.imp {X : Cx} {e : Stmt} {t t' : TS} (h : PS X e t) (hi : ∀ D σ H, t' D σ H → t D σ H) : PS X e t' := ⟨fun pins s σ H D I q => h.run pins s σ H D I (hi D σ H q)⟩
theorem PSs.imp {X : Cx} {e : List Stmt} {t t' : TS} (h : PSs X e t) (hi : ∀ D σ H, t' D σ H → t D σ H) : PSs X e t' := ⟨fun pins s σ H D I q => h.run pins s σ H D I (hi D σ H q)⟩

/-! ### two in a row -/
section
variable {K : PySem.W.Frag} {T : List Addr} {σ : L2.St} {sl : List S} {io io1 io2 : IO} {H : Hp}
theorem one {f : DE} {a : A} {R : V → Hp → Prop} (hR : Rel K T σ sl io H) (hf : f sl io = some (a, io1))
    (hq : ∀ x H1, Stp T H H1 → IoOk K T io1 H1 → VOk K T H H1 x a → R x H1) : tE K f σ H R :=
  ⟨T, sl, io, hR, a, io1, hf, fun x H1 s1 i1 v1 => hq x H1 s1 i1 v1⟩
theorem two {f g : DE} {a b : A} {R : V → V → Hp → Prop} (hR : Rel K T σ sl io H) (hf : f sl io = some (a, io1)) (hg : g sl io1 = some (b, io2))
    (hq : ∀ x y H2, Stp T H H2 → IoOk K T io2 H2 → VOk K T H H2 x a → VOk K T H H2 y b → R x y H2) : tE K f σ H (fun x H1 => tE K g σ H1 (fun y H2 => R x y H2)) :=
  ⟨T, sl, io, hR, a, io1, hf, fun x H1 s1 i1 v1 => ⟨T, sl, io1, hR.step s1 i1, b, io2, hg, fun y H2 s2 i2 v2 => hq x y H2 (s1.trans s2) i2 (v1.mono s2) (v2.back s1)⟩⟩
end
end DD
set_option Elab.async false
set_option linter.all false
set_option maxRecDepth 100000
set_option maxHeartbeats 2000000
namespace DD
open PySem PySem.Spec PyProof.Rows L2

def LIM : Nat := 100000
theorem lim_le {n : Nat} (h : n ≤ LIM) : n ≤ sizeLine := Nat.le_trans h (by decide)

section
variable {X : Cx} {f g h : DE}
/-! ### names, constants -/
def dVar (i : Nat) : DE := fun sl io => match sl[i]? with
  | some (.dat d) => some (.dat d, io)
  | some (.ref k) => some (.ref k, io)
  | _ => none
theorem pd_var {e : Expr} {i : Nat} (he : PE X e (tVar i)) : PE X e (tE X.K (dVar i)) := PE.imp he fun σ H Q hh => by
  obtain ⟨T, sl, io, hR, a, io', e, q⟩ := hh
  unfold dVar at e
  split at e
  · rename_i d hs
    cases e
    obtain ⟨v, ev, hd⟩ := hR.slot i _ hs
    exact ⟨v, ev, q v H (Stp.refl _ _) hR.io hd⟩
  · rename_i k hs
    cases e
    obtain ⟨p, ep, ev⟩ := hR.slot i _ hs
    exact ⟨_, ev, q _ H (Stp.refl _ _) hR.io ⟨p, ep, rfl⟩⟩
  · cases e
def dC (d : D) : DE := fun _ io => some (.dat d, io)
theorem pd_c {e : Expr} {v : V} {d : D} (he : PE X e (tC v)) (hd : ∀ H, Dd X.K H v d) : PE X e (tE X.K (dC d)) := PE.imp he fun σ H Q hh => by
  obtain ⟨T, sl, io, hR, a, io', e, q⟩ := hh
  cases e
  exact q v H (Stp.refl _ _) hR.io (hd _)
theorem pd_int {i j pos} : PE X (.Constant (.int i) j pos) (tE X.K (dC (.int i))) := pd_c pe_int fun _ => .int _
theorem pd_str {i j pos} : PE X (.Constant (.str i) j pos) (tE X.K (dC (.str i))) := pd_c pe_str fun _ => .str _
theorem pd_bl {i j pos} : PE X (.Constant (.bool i) j pos) (tE X.K (dC (.bool i))) := pd_c pe_bl fun _ => .bl _
theorem pd_non {j pos} : PE X (.Constant .none j pos) (tE X.K (dC .none)) := pd_c pe_non fun _ => .non

/-! ### operators -/
def rO (K : PySem.W.Frag) (o : D → D → Option A) : R2 := fun x y H Q => ∃ T d e r, VwOk K T H x d ∧ VwOk K T H y e ∧ (∀ p, H p = none → p ∉ T) ∧ o d e = some r ∧ ∀ v H', Ex H H' → VOk K T H H' v r → Q v H'
def dOp (o : D → D → Option A) (f g : DE) : DE := fun sl io => (f sl io).bind fun p => (g sl p.2).bind fun q => (vw q.2 p.1).bind fun x => (vw q.2 q.1).bind fun y => (o x y).map fun r => (r, q.2)
theorem dOp_some {o : D → D → Option A} {sl : List S} {io io' : IO} {r : A} (e : dOp o f g sl io = some (r, io')) :
    ∃ a io1 b x y, f sl io = some (a, io1) ∧ g sl io1 = some (b, io') ∧ vw io' a = some x ∧ vw io' b = some y ∧ o x y = some r := by
  unfold dOp at e
  simp only [Option.bind_eq_some_iff, Option.map_eq_some_iff, Prod.exists, Prod.mk.injEq] at e
  obtain ⟨a, io1, e1, b, io2, e2, x, e3, y, e4, r', e5, rfl, rfl⟩ := e
  exact ⟨a, io1, b, x, y, e1, e2, e3, e4, e5⟩
theorem op_run {o : D → D → Option A} {σ : L2.St} {H : Hp} {Q : VK} (hh : tE X.K (dOp o f g) σ H Q) : tOp (rO X.K o) (tE X.K f) (tE X.K g) σ H Q := by
  obtain ⟨T, sl, io, hR, r, io', e, q⟩ := hh
  obtain ⟨a, io1, b, x, y, e1, e2, e3, e4, e5⟩ := dOp_some e
  refine two hR e1 e2 fun v u H2 s2 i2 va vb => ?_
  exact ⟨T, x, y, r, vw_ok va i2 e3, vw_ok vb i2 e4, fun p n => i2.fresh n, e5, fun z H' ex vz => q z H' (s2.trans (Stp.of_ex ex)) (i2.ex ex) (vz.back s2)⟩
theorem pd_op {a b : Expr} {pos : Pos} {op : Operator} {o : D → D → Option A} (ho : OpR X (binaryOp op) (rO X.K o)) (ha : PE X a (tE X.K f)) (hb : PE X b (tE X.K g)) : PE X (.BinOp a op b pos) (tE X.K (dOp o f g)) :=
  PE.imp (pe_op ho ha hb) fun _ _ _ hh => op_run hh
theorem pd_cmp {a b : Expr} {pos : Pos} {op : CmpOp} {o : D → D → Option A} (ho : OpR X (compareOp op) (rO X.K o)) (ha : PE X a (tE X.K f)) (hb : PE X b (tE X.K g)) (hm : behindInMarks op b = false) : PE X (.Compare a [op] [b] pos) (tE X.K (dOp o f g)) :=
  PE.imp (pe_cmpR ho ha hb hm) fun _ _ _ hh => op_run hh
def dTst (f : DE) : DT := fun sl io => (f sl io).bind fun p => match p.1 with
  | .dat (.bool b) => some (b, p.2)
  | _ => none
theorem tst_run {σ : L2.St} {H : Hp} {Q : Bool → Hp → Prop} (hh : tT X.K (dTst f) σ H Q) : tE X.K f σ H fun x H' => ∃ k, x = .bl k ∧ Q k H' := by
  obtain ⟨T, sl, io, hR, b, io', e, q⟩ := hh
  unfold dTst at e
  simp only [Option.bind_eq_some_iff, Prod.exists] at e
  obtain ⟨a, io1, e1, e2⟩ := e
  split at e2
  · cases e2
    refine one hR e1 fun x H1 s1 i1 v1 => ?_
    have v1' : Dd X.K (out T H1) x (.bool b) := v1
    cases v1'
    exact ⟨b, rfl, q H1 s1 i1⟩
  · cases e2
theorem pd_cmpT {a b : Expr} {pos : Pos} {op : CmpOp} {o : D → D → Option A} (ho : OpR X (compareOp op) (rO X.K o)) (ha : PE X a (tE X.K f)) (hb : PE X b (tE X.K g)) (hm : behindInMarks op b = false) : PT X (.Compare a [op] [b] pos) (tT X.K (dTst (dOp o f g))) := by
  refine PT.imp (pt_cmpR ho ha hb hm) fun σ H Q hh => ?_
  obtain ⟨T, sl, io, hR, b, io', e, q⟩ := hh
  refine op_run (f := f) (g := g) (Q := fun x H' => ∃ k, x = .bl k ∧ Q k H') (tst_run ⟨T, sl, io, hR, b, io', e, q⟩)
/-- any expression as a test -/
def truD : D → Option Bool
  | .none => some false
  | .bool b => some b
  | .int i => some (i != 0)
  | .str s => if s.length ≤ LIM then some ((s.length : Int) != 0) else none
  | .list ds => some (!ds.isEmpty)
  | .tuple ds => some (!ds.isEmpty)
  | .dict _ => none
def dTru (f : DE) : DT := fun sl io => (f sl io).bind fun p => (vw p.2 p.1).bind fun d => (truD d).map fun b => (b, p.2)
theorem isEmpty_dd {K : PySem.W.Frag} {H : Hp} {xs : List V} {ds : List D} (h : DdAll K H xs ds) : xs.isEmpty = ds.isEmpty := by
  cases h <;> rfl
theorem tru_of {K : PySem.W.Frag} {T : List Addr} {H : Hp} {v : V} {d : D} {b : Bool} (h : VwOk K T H v d) (e : truD d = some b) : TruV K v H b := by
  cases d with
  | none => cases h.non; cases e; rfl
  | bool c => cases h.bl; cases e; rfl
  | int i => cases h.int; cases e; rfl
  | str s =>
    cases h.str
    simp only [truD] at e
    split at e
    · cases e; exact ⟨lim_le (by assumption), rfl⟩
    · cases e
  | list ds =>
    obtain ⟨p, xs, rfl, hp, hd⟩ := h.lst
    cases e
    exact .inl ⟨xs, SqL.of hp, by rw [isEmpty_dd hd]⟩
  | tuple ds =>
    obtain ⟨p, xs, rfl, hp, hd⟩ := h.tup
    cases e
    exact .inr (.inl ⟨xs, Evl.ex_t out_ex hp, by rw [isEmpty_dd hd]⟩)
  | dict _ => cases e
theorem pd_tru {a : Expr} (ha : PE X a (tE X.K f)) (he : ∀ whole, isTrue a X.env whole = (do let v ← whole; standAt a.pos; holding [v] (truthy v)) := by intro _; rfl) : PT X a (tT X.K (dTru f)) := by
  refine PT.imp (pt_truth ha he) fun σ H Q hh => ?_
  obtain ⟨T, sl, io, hR, b, io', e, q⟩ := hh
  unfold dTru at e
  simp only [Option.bind_eq_some_iff, Option.map_eq_some_iff, Prod.exists, Prod.mk.injEq] at e
  obtain ⟨a, io1, e1, d, e2, b', e3, rfl, rfl⟩ := e
  exact one hR e1 fun x H1 s1 i1 v1 => ⟨_, tru_of (vw_ok v1 i1 e2) e3, q H1 s1 i1⟩

/-! #### arithmetic -/
def addD : D → D → Option A
  | .int i, .int j => some (.dat (.int (i + j)))
  | .str a, .str b => if a.length + b.length ≤ LIM then some (.dat (.str (a ++ b))) else none
  | .tuple xs, .tuple ys => if xs.length + ys.length ≤ LIM then some (.dat (.tuple (xs ++ ys))) else none
  | .list xs, .list ys => if xs.length + ys.length ≤ LIM then some (.tmp (xs ++ ys)) else none
  | _, _ => none
theorem dd_newT {K : PySem.W.Frag} {T : List Addr} {H : Hp} {p : Addr} {xs : List V} {ds : List D} (n : H p = none) (nt : p ∉ T) (h : DdAll K (out T H) xs ds) : Dd K (out T (upd H p (.tup xs))) (.ref p) (.tuple ds) :=
  .tup (SqT.of (by rw [out_not nt, upd_same])) (h.mono (Stp.of_ex (Ex.new n)).out)
theorem vok_newL {K : PySem.W.Frag} {T : List Addr} {H : Hp} {p : Addr} {xs : List V} {ds : List D} (n : H p = none) (nt : p ∉ T) (h : DdAll K (out T H) xs ds) : VOk K T H (upd H p (.lst xs)) (.ref p) (.tmp ds) :=
  ⟨p, xs, rfl, n, nt, upd_same, h.mono (Stp.of_ex (Ex.new n)).out⟩
theorem op_addD : OpR X (binaryOp .Add) (rO X.K addD) := by
  intro pins s σ H x y v u Q I rx ry ⟨T, d, e, r, hx, hy, ht, ho, q⟩
  unfold addD at ho
  split at ho
  · cases ho; cases hx.int; cases hy.int
    exact op_add pins s σ H _ _ v u Q I rx ry ⟨_, _, rfl, rfl, q _ H (Ex.refl _) (.int _)⟩
  · split at ho
    · cases ho; cases hx.str; cases hy.str
      exact op_add_str pins s σ H _ _ v u Q I rx ry ⟨_, _, rfl, rfl, lim_le (by assumption), q _ H (Ex.refl _) (.str _)⟩
    · cases ho
  · split at ho
    · cases ho
      obtain ⟨p, xs, rfl, hp, hd⟩ := hx.tup
      obtain ⟨p', ys, rfl, hp', hd'⟩ := hy.tup
      refine op_catA pins s σ H _ _ v u Q I rx ry ⟨p, p', xs, ys, rfl, rfl, Evl.ex_t out_ex hp, Evl.ex_t out_ex hp', ?_, ?_, ?_, ?_⟩
      · rw [hd.length, hd'.length]; exact lim_le (by assumption)
      · rintro rfl
        cases hd
        exact q _ H (Ex.refl _) (.tup hp' hd')
      · rintro _ rfl
        cases hd'
        exact q _ H (Ex.refl _) (by rw [List.append_nil]; exact .tup hp hd)
      · intro _ _ z hz
        exact q _ _ (Ex.new hz) (dd_newT hz (ht z hz) (hd.append hd'))
    · cases ho
  · split at ho
    · cases ho
      obtain ⟨p, xs, rfl, hp, hd⟩ := hx.lst
      obtain ⟨p', ys, rfl, hp', hd'⟩ := hy.lst
      refine op_cat pins s σ H _ _ v u Q I rx ry ⟨p, p', xs, ys, rfl, rfl, hp, hp', ?_, fun z hz => q _ _ (Ex.new hz) (vok_newL hz (ht z hz) (hd.append hd'))⟩
      rw [hd.length, hd'.length]; exact lim_le (by assumption)
    · cases ho
  · cases ho
def subD : D → D → Option A
  | .int i, .int j => some (.dat (.int (i - j)))
  | _, _ => none
theorem op_subD : OpR X (binaryOp .Sub) (rO X.K subD) := by
  intro pins s σ H x y v u Q I rx ry ⟨T, d, e, r, hx, hy, ht, ho, q⟩
  unfold subD at ho
  split at ho
  · cases ho; cases hx.int; cases hy.int
    exact op_sub pins s σ H _ _ v u Q I rx ry ⟨_, _, rfl, rfl, q _ H (Ex.refl _) (.int _)⟩
  · cases ho
def mulOk (i j : Int) : Bool := (decide (-(2 ^ 64) < i) && decide (i < 2 ^ 64)) || (decide (-(2 ^ 64) < j) && decide (j < 2 ^ 64))
theorem mulOk_c {i j : Int} (h : mulOk i j = true) : CMul i j := by
  unfold mulOk at h
  rw [Bool.or_eq_true, Bool.and_eq_true, Bool.and_eq_true] at h
  rcases h with ⟨a, b⟩ | ⟨a, b⟩
  · exact .inl ⟨of_decide_eq_true a, of_decide_eq_true b⟩
  · exact .inr ⟨of_decide_eq_true a, of_decide_eq_true b⟩
def mulD : D → D → Option A
  | .int i, .int j => if mulOk i j = true then some (.dat (.int (i * j))) else none
  | .list xs, .int k => if k < 1000 ∧ -1000 < k ∧ xs.length * k.toNat ≤ LIM then some (.tmp (List.replicate k.toNat xs).flatten) else none
  | _, _ => none
theorem op_mulD : OpR X (binaryOp .Mult) (rO X.K mulD) := by
  intro pins s σ H x y v u Q I rx ry ⟨T, d, e, r, hx, hy, ht, ho, q⟩
  unfold mulD at ho
  split at ho
  · split at ho
    · cases ho; cases hx.int; cases hy.int
      exact op_mul pins s σ H _ _ v u Q I rx ry ⟨_, _, rfl, rfl, mulOk_c (by assumption), q _ H (Ex.refl _) (.int _)⟩
    · cases ho
  · split at ho
    · rename_i hk
      cases ho; cases hy.int
      obtain ⟨p, xs, rfl, hp, hd⟩ := hx.lst
      refine op_rep pins s σ H _ _ v u Q I rx ry ⟨p, _, xs, rfl, rfl, hp, by omega, by omega, ?_, fun z hz => q _ _ (Ex.new hz) (vok_newL hz (ht z hz) (hd.rep _))⟩
      rw [hd.length]; exact lim_le hk.2.2
    · cases ho
  · cases ho
def fdivD : D → D → Option A
  | .int i, .int j => if 0 < j ∧ j < 1073741824 then some (.dat (.int (i / j))) else none
  | _, _ => none
theorem op_fdivD : OpR X (binaryOp .FloorDiv) (rO X.K fdivD) := by
  intro pins s σ H x y v u Q I rx ry ⟨T, d, e, r, hx, hy, ht, ho, q⟩
  unfold fdivD at ho
  split at ho
  · split at ho
    · cases ho; cases hx.int; cases hy.int
      exact op_fdiv pins s σ H _ _ v u Q I rx ry ⟨_, _, rfl, rfl, (by assumption), q _ H (Ex.refl _) (.int _)⟩
    · cases ho
  · cases ho
def modD : D → D → Option A
  | .int i, .int j => if 0 < j then some (.dat (.int (i % j))) else none
  | _, _ => none
theorem op_modD : OpR X (binaryOp .Mod) (rO X.K modD) := by
  intro pins s σ H x y v u Q I rx ry ⟨T, d, e, r, hx, hy, ht, ho, q⟩
  unfold modD at ho
  split at ho
  · split at ho
    · cases ho; cases hx.int; cases hy.int
      exact op_mod pins s σ H _ _ v u Q I rx ry ⟨_, _, rfl, rfl, (by assumption), q _ H (Ex.refl _) (.int _)⟩
    · cases ho
  · cases ho
def powD : D → D → Option A
  | .int i, .int j => if 0 ≤ j ∧ j ≤ 1000000 ∧ i.natAbs < 2 ^ 64 then some (.dat (.int (i ^ j.toNat))) else none
  | _, _ => none
theorem op_powD : OpR X (binaryOp .Pow) (rO X.K powD) := by
  intro pins s σ H x y v u Q I rx ry ⟨T, d, e, r, hx, hy, ht, ho, q⟩
  unfold powD at ho
  split at ho
  · split at ho
    · cases ho; cases hx.int; cases hy.int
      exact op_pow pins s σ H _ _ v u Q I rx ry ⟨_, _, rfl, rfl, (by assumption), q _ H (Ex.refl _) (.int _)⟩
    · cases ho
  · cases ho

/-! #### comparisons -/
def blA (b : Bool) : A := .dat (.bool b)
def eqS : D → D → Option Bool
  | .none, .none => some true
  | .none, .int _ => some false
  | .none, .bool _ => some false
  | .none, .str _ => some false
  | .int _, .none => some false
  | .bool _, .none => some false
  | .str _, .none => some false
  | .int i, .int j => some (decide (i = j))
  | .bool i, .bool j => some (decide (i = j))
  | .str i, .str j => some (decide (i = j))
  | .int _, .str _ => some false
  | .str _, .int _ => some false
  | .bool _, .str _ => some false
  | .str _, .bool _ => some false
  | _, _ => none
theorem eqS_ok {K : PySem.W.Frag} {T : List Addr} {H : Hp} {x y : V} {d e : D} {b : Bool} (hx : VwOk K T H x d) (hy : VwOk K T H y e) (h : eqS d e = some b) : scal x y = true ∧ decide (x = y) = b := by
  unfold eqS at h
  split at h <;> first | (cases h; done) | skip
  all_goals (cases h)
  all_goals first | cases hx.non | cases hx.int | cases hx.bl | cases hx.str
  all_goals first | cases hy.non | cases hy.int | cases hy.bl | cases hy.str
  all_goals refine ⟨rfl, ?_⟩
  all_goals first | rfl | (exact decide_eq_false (fun z => nomatch z)) | simp
theorem shaped_nd {d : D} (h : SeqAt.shaped d = true) : PyData.hasDict d = false := PyData.hasDict_of_canLay d (SeqAt.canLay_of_shaped h)
def eqD (d e : D) : Option Bool := match eqS d e with
  | some b => some b
  | none => if SeqAt.shaped d && SeqAt.shaped e then some (PyData.eqv d e) else none
theorem op_eqDD (hu : X.A.units + 64 < cLine) : OpR X (compareOp .Eq) (rO X.K fun d e => (eqD d e).map blA) := by
  intro pins s σ H x y v u Q I rx ry ⟨T, d, e, r, hx, hy, ht, ho, q⟩
  rw [Option.map_eq_some_iff] at ho
  obtain ⟨b, hb, rfl⟩ := ho
  unfold eqD at hb
  split at hb
  · rename_i b' he
    cases hb
    obtain ⟨h1, h2⟩ := eqS_ok hx hy he
    exact op_eq pins s σ H _ _ v u Q I rx ry ⟨h1, by rw [h2]; exact q _ H (Ex.refl _) (.bl _)⟩
  · split at hb
    · rename_i hs
      rw [Bool.and_eq_true] at hs
      cases hb
      exact op_eqD hu pins s σ H _ _ v u Q I rx ry ⟨d, e, hx.dd.dp (shaped_nd hs.1), hy.dd.dp (shaped_nd hs.2), hs.1, hs.2, q _ H (Ex.refl _) (.bl _)⟩
    · cases hb
theorem op_neDD (hu : X.A.units + 64 < cLine) : OpR X (compareOp .NotEq) (rO X.K fun d e => (eqD d e).map fun b => blA (!b)) := by
  intro pins s σ H x y v u Q I rx ry ⟨T, d, e, r, hx, hy, ht, ho, q⟩
  rw [Option.map_eq_some_iff] at ho
  obtain ⟨b, hb, rfl⟩ := ho
  unfold eqD at hb
  split at hb
  · rename_i b' he
    cases hb
    obtain ⟨h1, h2⟩ := eqS_ok hx hy he
    exact op_ne pins s σ H _ _ v u Q I rx ry ⟨h1, by rw [h2]; exact q _ H (Ex.refl _) (.bl _)⟩
  · split at hb
    · rename_i hs
      rw [Bool.and_eq_true] at hs
      cases hb
      exact op_neD hu pins s σ H _ _ v u Q I rx ry ⟨d, e, hx.dd.dp (shaped_nd hs.1), hy.dd.dp (shaped_nd hs.2), hs.1, hs.2, q _ H (Ex.refl _) (.bl _)⟩
    · cases hb
def cmpI (p : Int → Int → Bool) : D → D → Option A
  | .int i, .int j => some (blA (p i j))
  | _, _ => none
theorem cmpI_op {op : CmpOp} {p : Int → Int → Bool} (h : OpR X (compareOp op) (rI0 fun i j => .bl (p i j))) : OpR X (compareOp op) (rO X.K (cmpI p)) := by
  intro pins s σ H x y v u Q I rx ry ⟨T, d, e, r, hx, hy, ht, ho, q⟩
  unfold cmpI at ho
  split at ho
  · cases ho; cases hx.int; cases hy.int
    exact h pins s σ H _ _ v u Q I rx ry ⟨_, _, rfl, rfl, q _ H (Ex.refl _) (.bl _)⟩
  · cases ho
def ltD := cmpI fun i j => decide (i < j)
def leD := cmpI fun i j => decide (i ≤ j)
def gtD := cmpI fun i j => decide (j < i)
def geD := cmpI fun i j => decide (j ≤ i)
theorem op_ltD : OpR X (compareOp .Lt) (rO X.K ltD) := cmpI_op op_lt
theorem op_leD : OpR X (compareOp .LtE) (rO X.K leD) := cmpI_op op_le
theorem op_gtD : OpR X (compareOp .Gt) (rO X.K gtD) := cmpI_op op_gt
theorem op_geD : OpR X (compareOp .GtE) (rO X.K geD) := cmpI_op op_ge
def isNonD : D → Bool
  | .none => true
  | _ => false
theorem isNon_ok {K : PySem.W.Frag} {T : List Addr} {H : Hp} {x : V} {d : D} (hx : VwOk K T H x d) : decide (x = .non) = isNonD d := by
  have h := hx.dd
  cases h <;> first | rfl | exact decide_eq_false (fun z => nomatch z)
def isD : D → D → Option A
  | d, .none => some (blA (isNonD d))
  | _, _ => none
def isntD : D → D → Option A
  | d, .none => some (blA (!isNonD d))
  | _, _ => none
theorem op_isD : OpR X (compareOp .Is) (rO X.K isD) := by
  intro pins s σ H x y v u Q I rx ry ⟨T, d, e, r, hx, hy, ht, ho, q⟩
  unfold isD at ho
  split at ho
  · cases ho; cases hy.non
    exact op_isN pins s σ H _ _ v u Q I rx ry ⟨rfl, by rw [isNon_ok hx]; exact q _ H (Ex.refl _) (.bl _)⟩
  · cases ho
theorem op_isntD : OpR X (compareOp .IsNot) (rO X.K isntD) := by
  intro pins s σ H x y v u Q I rx ry ⟨T, d, e, r, hx, hy, ht, ho, q⟩
  unfold isntD at ho
  split at ho
  · cases ho; cases hy.non
    exact op_notN pins s σ H _ _ v u Q I rx ry ⟨rfl, by rw [isNon_ok hx]; exact q _ H (Ex.refl _) (.bl _)⟩
  · cases ho
/-! in, not in -/
def flatD : D → Bool
  | .none => true
  | .bool _ => true
  | .int _ => true
  | .str _ => true
  | _ => false
def inAny (x : D) (ds : List D) : Bool := ds.any fun y => PyData.eqv y x
theorem flat_ok {K : PySem.W.Frag} {H : Hp} {x : V} {d : D} (h : Dd K H x d) (f : flatD d = true) : flatV x = true := by
  cases h <;> first | rfl | cases f
theorem flats_ok {K : PySem.W.Frag} {H : Hp} : ∀ {xs : List V} {ds : List D}, DdAll K H xs ds → ds.all flatD = true → xs.all flatV = true
  | _, _, .nil, _ => rfl
  | _, _, .cons h t, f => by
    rw [List.all_cons, Bool.and_eq_true] at f
    rw [List.all_cons, Bool.and_eq_true]
    exact ⟨flat_ok h f.1, flats_ok t f.2⟩
theorem eqv_ok {K : PySem.W.Frag} {H H' : Hp} {x y : V} {d e : D} (h : Dd K H x d) (h' : Dd K H' y e) (f : flatD d = true) (f' : flatD e = true) : eqV x y = PyData.eqv d e := by
  cases h <;> cases h' <;> first | rfl | (simp [eqV, PyData.eqv]; done) | cases f | cases f'
theorem inV_ok {K : PySem.W.Frag} {H H' : Hp} {x : V} {d : D} (h : Dd K H x d) (f : flatD d = true) : ∀ {xs : List V} {ds : List D}, DdAll K H' xs ds → ds.all flatD = true → inV x xs = inAny d ds
  | _, _, .nil, _ => rfl
  | _, _, .cons (d := d') (ds := ds) (vs := vs) (v := v) h2 t, f2 => by
    rw [List.all_cons, Bool.and_eq_true] at f2
    have ih := inV_ok h f t f2.2
    unfold inV inAny at ih ⊢
    rw [List.any_cons, List.any_cons, eqv_ok h2 h f2.1 f, ih]
def inD : D → D → Option Bool
  | .str a, .str b => match a.cps.toList with
    | [c] => some (decide (c ∈ b.cps.toList))
    | _ => some (!(Builtin.Str.occurrences b a 0 b.length 1).isEmpty)
  | d, .tuple ds => if flatD d && ds.all flatD then some (inAny d ds) else none
  | d, .list ds => if flatD d && ds.all flatD then some (inAny d ds) else none
  | _, _ => none
theorem in_cases {X : Cx} {neg : Bool} {x y : V} {T : List Addr} {H : Hp} {d e : D} {b : Bool} {Q : VK} (hx : VwOk X.K T H x d) (hy : VwOk X.K T H y e) (h : inD d e = some b) (q : Q (.bl (if neg then !b else b)) H) :
    (∃ (c : Nat) (z : Str), x = .str ⟨#[c]⟩ ∧ y = .str z ∧ Q (.bl (if neg then !decide (c ∈ z.cps.toList) else decide (c ∈ z.cps.toList))) H) ∨
    (∃ i j, x = .str i ∧ y = .str j ∧ Q (.bl (if neg then !(!(Builtin.Str.occurrences j i 0 j.length 1).isEmpty) else !(Builtin.Str.occurrences j i 0 j.length 1).isEmpty)) H) ∨ rIn X.K neg x y H Q := by
  unfold inD at h
  split at h
  · rename_i a b'
    cases hx.str; cases hy.str
    split at h
    · rename_i c hc
      cases h
      refine .inl ⟨c, b', ?_, rfl, q⟩
      have : a = ⟨#[c]⟩ := by
        obtain ⟨cps⟩ := a
        have : cps = #[c] := by
          have := congrArg List.toArray hc
          simpa using this
        rw [this]
      rw [this]
    · cases h
      exact .inr (.inl ⟨a, b', rfl, rfl, q⟩)
  · rename_i ds
    split at h
    · rename_i hf
      rw [Bool.and_eq_true] at hf
      cases h
      obtain ⟨p, xs, rfl, hp, hd⟩ := hy.tup
      exact .inr (.inr ⟨p, xs, rfl, .inr (Evl.ex_t out_ex hp), flat_ok hx.dd hf.1, flats_ok hd hf.2, by rw [inV_ok hx.dd hf.1 hd hf.2]; exact q⟩)
    · cases h
  · rename_i ds
    split at h
    · rename_i hf
      rw [Bool.and_eq_true] at hf
      cases h
      obtain ⟨p, xs, rfl, hp, hd⟩ := hy.lst
      exact .inr (.inr ⟨p, xs, rfl, .inl (SqL.of hp), flat_ok hx.dd hf.1, flats_ok hd hf.2, by rw [inV_ok hx.dd hf.1 hd hf.2]; exact q⟩)
    · cases h
  · cases h
theorem op_inD : OpR X (compareOp .In) (rO X.K fun d e => (inD d e).map blA) := by
  intro pins s σ H x y v u Q I rx ry ⟨T, d, e, r, hx, hy, ht, ho, q⟩
  rw [Option.map_eq_some_iff] at ho
  obtain ⟨b, hb, rfl⟩ := ho
  rcases in_cases (X := X) (neg := false) hx hy hb (q _ H (Ex.refl _) (.bl _)) with h | h | h
  · exact op_in_sign pins s σ H _ _ v u Q I rx ry h
  · exact op_in_str pins s σ H _ _ v u Q I rx ry h
  · exact op_in_seq pins s σ H _ _ v u Q I rx ry h
theorem op_notInD : OpR X (compareOp .NotIn) (rO X.K fun d e => (inD d e).map fun b => blA (!b)) := by
  intro pins s σ H x y v u Q I rx ry ⟨T, d, e, r, hx, hy, ht, ho, q⟩
  rw [Option.map_eq_some_iff] at ho
  obtain ⟨b, hb, rfl⟩ := ho
  rcases in_cases (X := X) (neg := true) hx hy hb (q _ H (Ex.refl _) (.bl _)) with h | h | h
  · exact op_notIn_sign pins s σ H _ _ v u Q I rx ry h
  · exact op_notIn_str pins s σ H _ _ v u Q I rx ry h
  · exact op_notIn_seq pins s σ H _ _ v u Q I rx ry h

/-! ### unary minus, not, and, or, if-else, chains -/
def dNeg (f : DE) : DE := fun sl io => (f sl io).bind fun p => match p.1 with
  | .dat (.int i) => some (.dat (.int (-i)), p.2)
  | _ => none
theorem pd_neg {a : Expr} {pos : Pos} (ha : PE X a (tE X.K f)) : PE X (.UnaryOp .USub a pos) (tE X.K (dNeg f)) := by
  refine PE.imp (pe_un un_neg ha) fun σ H Q hh => ?_
  obtain ⟨T, sl, io, hR, r, io', e, q⟩ := hh
  unfold dNeg at e
  simp only [Option.bind_eq_some_iff, Prod.exists] at e
  obtain ⟨a, io1, e1, e2⟩ := e
  split at e2
  · rename_i i
    cases e2
    refine one hR e1 fun x H1 s1 i1 v1 => ?_
    have v1' : Dd X.K (out T H1) x (.int i) := v1
    cases v1'
    exact ⟨i, rfl, q _ H1 s1 i1 (.int _)⟩
  · cases e2
def dNotT (t : DT) : DT := fun sl io => (t sl io).map fun p => (!p.1, p.2)
theorem pd_notT {a : Expr} {pos : Pos} {t : DT} (ha : PT X a (tT X.K t)) : PT X (.UnaryOp .Not a pos) (tT X.K (dNotT t)) := by
  refine PT.imp (pt_not ha) fun σ H Q hh => ?_
  obtain ⟨T, sl, io, hR, b, io', e, q⟩ := hh
  unfold dNotT at e
  simp only [Option.map_eq_some_iff, Prod.exists, Prod.mk.injEq] at e
  obtain ⟨c, io1, e1, rfl, rfl⟩ := e
  exact ⟨T, sl, io, hR, c, io1, e1, fun H' s i => q H' s i⟩
def dAndT (t u : DT) : DT := fun sl io => (t sl io).bind fun p => if p.1 then u sl p.2 else some (false, p.2)
def dOrT (t u : DT) : DT := fun sl io => (t sl io).bind fun p => if p.1 then some (true, p.2) else u sl p.2
theorem pd_and {a b : Expr} {rest : List Expr} {pos : Pos} {t u : DT} (ha : PT X a (tT X.K t)) (hb : PW X (.BoolOp .And (b :: rest) pos) (tT X.K u)) : PW X (.BoolOp .And (a :: b :: rest) pos) (tT X.K (dAndT t u)) := by
  refine ⟨fun wh pins s σ H Q I hh => (pw_and ha hb).run wh pins s σ H Q I ?_⟩
  obtain ⟨T, sl, io, hR, b, io', e, q⟩ := hh
  unfold dAndT at e
  simp only [Option.bind_eq_some_iff, Prod.exists] at e
  obtain ⟨c, io1, e1, e2⟩ := e
  refine ⟨T, sl, io, hR, c, io1, e1, fun H1 s1 i1 => ?_⟩
  cases c with
  | true => exact ⟨T, sl, io1, hR.step s1 i1, b, io', e2, fun H2 s2 i2 => q H2 (s1.trans s2) i2⟩
  | false => cases e2; exact q H1 s1 i1
theorem pd_or {a b : Expr} {rest : List Expr} {pos : Pos} {t u : DT} (ha : PT X a (tT X.K t)) (hb : PW X (.BoolOp .Or (b :: rest) pos) (tT X.K u)) : PW X (.BoolOp .Or (a :: b :: rest) pos) (tT X.K (dOrT t u)) := by
  refine ⟨fun wh pins s σ H Q I hh => (pw_or ha hb).run wh pins s σ H Q I ?_⟩
  obtain ⟨T, sl, io, hR, b, io', e, q⟩ := hh
  unfold dOrT at e
  simp only [Option.bind_eq_some_iff, Prod.exists] at e
  obtain ⟨c, io1, e1, e2⟩ := e
  refine ⟨T, sl, io, hR, c, io1, e1, fun H1 s1 i1 => ?_⟩
  cases c with
  | false => exact ⟨T, sl, io1, hR.step s1 i1, b, io', e2, fun H2 s2 i2 => q H2 (s1.trans s2) i2⟩
  | true => cases e2; exact q H1 s1 i1
def dNotV (f : DE) : DE := fun sl io => (f sl io).bind fun p => match p.1 with
  | .dat (.bool b) => some (.dat (.bool (!b)), p.2)
  | _ => none
theorem pd_notV {a : Expr} {pos : Pos} (ha : PE X a (tE X.K f)) : PE X (.UnaryOp .Not a pos) (tE X.K (dNotV f)) := by
  refine PE.imp (pe_not ha) fun σ H Q hh => ?_
  obtain ⟨T, sl, io, hR, r, io', e, q⟩ := hh
  unfold dNotV at e
  simp only [Option.bind_eq_some_iff, Prod.exists] at e
  obtain ⟨a, io1, e1, e2⟩ := e
  split at e2
  · rename_i i
    cases e2
    refine one hR e1 fun x H1 s1 i1 v1 => ?_
    have v1' : Dd X.K (out T H1) x (.bool i) := v1
    cases v1'
    exact ⟨i, rfl, q _ H1 s1 i1 (.bl _)⟩
  · cases e2
def dAndV (f g : DE) : DE := fun sl io => (f sl io).bind fun p => match p.1 with
  | .dat (.bool true) => g sl p.2
  | .dat (.bool false) => some (.dat (.bool false), p.2)
  | _ => none
def dOrV (f g : DE) : DE := fun sl io => (f sl io).bind fun p => match p.1 with
  | .dat (.bool false) => g sl p.2
  | .dat (.bool true) => some (.dat (.bool true), p.2)
  | _ => none
theorem pd_andV {a b : Expr} {rest : List Expr} {pos : Pos} (ha : PE X a (tE X.K f)) (hb : PE X (.BoolOp .And (b :: rest) pos) (tE X.K g)) : PE X (.BoolOp .And (a :: b :: rest) pos) (tE X.K (dAndV f g)) := by
  refine PE.imp (pe_and ha hb) fun σ H Q hh => ?_
  obtain ⟨T, sl, io, hR, r, io', e, q⟩ := hh
  unfold dAndV at e
  simp only [Option.bind_eq_some_iff, Prod.exists] at e
  obtain ⟨a, io1, e1, e2⟩ := e
  split at e2
  · skip
    refine one hR e1 fun x H1 s1 i1 v1 => ?_
    have v1' : Dd X.K (out T H1) x (.bool true) := v1
    cases v1'
    exact ⟨true, rfl, T, sl, io1, hR.step s1 i1, r, io', e2, fun v H2 s2 i2 v2 => q v H2 (s1.trans s2) i2 (v2.back s1)⟩
  · skip
    cases e2
    refine one hR e1 fun x H1 s1 i1 v1 => ?_
    have v1' : Dd X.K (out T H1) x (.bool false) := v1
    cases v1'
    exact ⟨false, rfl, q _ H1 s1 i1 (.bl _)⟩
  · cases e2
theorem pd_orV {a b : Expr} {rest : List Expr} {pos : Pos} (ha : PE X a (tE X.K f)) (hb : PE X (.BoolOp .Or (b :: rest) pos) (tE X.K g)) : PE X (.BoolOp .Or (a :: b :: rest) pos) (tE X.K (dOrV f g)) := by
  refine PE.imp (pe_or ha hb) fun σ H Q hh => ?_
  obtain ⟨T, sl, io, hR, r, io', e, q⟩ := hh
  unfold dOrV at e
  simp only [Option.bind_eq_some_iff, Prod.exists] at e
  obtain ⟨a, io1, e1, e2⟩ := e
  split at e2
  · skip
    refine one hR e1 fun x H1 s1 i1 v1 => ?_
    have v1' : Dd X.K (out T H1) x (.bool false) := v1
    cases v1'
    exact ⟨false, rfl, T, sl, io1, hR.step s1 i1, r, io', e2, fun v H2 s2 i2 v2 => q v H2 (s1.trans s2) i2 (v2.back s1)⟩
  · skip
    cases e2
    refine one hR e1 fun x H1 s1 i1 v1 => ?_
    have v1' : Dd X.K (out T H1) x (.bool true) := v1
    cases v1'
    exact ⟨true, rfl, q _ H1 s1 i1 (.bl _)⟩
  · cases e2
def dIfE (t : DT) (f g : DE) : DE := fun sl io => (t sl io).bind fun p => if p.1 then f sl p.2 else g sl p.2
theorem pd_ifE {c a b : Expr} {pos : Pos} {t : DT} (hc : PT X c (tT X.K t)) (ha : PE X a (tE X.K f)) (hb : PE X b (tE X.K g)) : PE X (.IfExp c a b pos) (tE X.K (dIfE t f g)) := by
  refine PE.imp (pe_ifExp hc ha hb) fun σ H Q hh => ?_
  obtain ⟨T, sl, io, hR, r, io', e, q⟩ := hh
  unfold dIfE at e
  simp only [Option.bind_eq_some_iff, Prod.exists] at e
  obtain ⟨b, io1, e1, e2⟩ := e
  refine ⟨T, sl, io, hR, b, io1, e1, fun H1 s1 i1 => ?_⟩
  cases b with
  | true => exact ⟨T, sl, io1, hR.step s1 i1, r, io', e2, fun v H2 s2 i2 v2 => q v H2 (s1.trans s2) i2 (v2.back s1)⟩
  | false => exact ⟨T, sl, io1, hR.step s1 i1, r, io', e2, fun v H2 s2 i2 v2 => q v H2 (s1.trans s2) i2 (v2.back s1)⟩
/-- a op1 b op2 c -/
def dChain (o o' : D → D → Option A) (f g h : DE) : DE := fun sl io => (f sl io).bind fun p => (g sl p.2).bind fun q => (vw q.2 p.1).bind fun x => (vw q.2 q.1).bind fun y => (o x y).bind fun r => match r with
  | .dat (.bool true) => (h sl q.2).bind fun z => (vw z.2 q.1).bind fun y' => (vw z.2 z.1).bind fun w => (o' y' w).map fun r' => (r', z.2)
  | .dat (.bool false) => some (.dat (.bool false), q.2)
  | _ => none
theorem chain_run {o o' : D → D → Option A} {σ : L2.St} {H : Hp} {Q : VK} (hh : tE X.K (dChain o o' f g h) σ H Q) : tChain (rO X.K o) (rO X.K o') (tE X.K f) (tE X.K g) (tE X.K h) σ H Q := by
  obtain ⟨T, sl, io, hR, r, io', e, q⟩ := hh
  unfold dChain at e
  simp only [Option.bind_eq_some_iff, Prod.exists] at e
  obtain ⟨a, io1, e1, b, io2, e2, x, e3, y, e4, r1, e5, e6⟩ := e
  refine two hR e1 e2 fun v u H2 s2 i2 va vb => ?_
  refine ⟨T, x, y, r1, vw_ok va i2 e3, vw_ok vb i2 e4, fun p n => i2.fresh n, e5, fun z H3 ex vz => ?_⟩
  have s3 := s2.trans (Stp.of_ex (T := T) ex)
  have i3 := i2.ex ex
  split at e6
  · have vz' : Dd X.K (out T H3) z (.bool true) := vz
    cases vz'
    simp only [Option.bind_eq_some_iff, Option.map_eq_some_iff, Prod.exists, Prod.mk.injEq] at e6
    obtain ⟨c, io3, e7, y', e8, w', e9, r2, e10, rfl, rfl⟩ := e6
    refine ⟨true, rfl, ?_⟩
    rw [if_pos rfl]
    refine one (hR.step s3 i3) e7 fun w4 H4 s4 i4 v4 => ?_
    have vb4 := vb.mono ((Stp.of_ex (T := T) ex).trans s4)
    exact ⟨T, y', w', r2, vw_ok vb4 i4 e8, vw_ok v4 i4 e9, fun p n => i4.fresh n, e10, fun z5 H5 ex5 v5 => q z5 H5 ((s3.trans s4).trans (Stp.of_ex ex5)) (i4.ex ex5) ((v5.back s4).back s3)⟩
  · have vz' : Dd X.K (out T H3) z (.bool false) := vz
    cases vz'
    cases e6
    refine ⟨false, rfl, ?_⟩
    rw [if_neg Bool.false_ne_true]
    exact q _ H3 s3 i3 (.bl _)
  · cases e6
theorem pd_chain {a b c : Expr} {pos : Pos} {op op' : CmpOp} {o o' : D → D → Option A} (ho : OpR X (compareOp op) (rO X.K o)) (ho' : OpR X (compareOp op') (rO X.K o')) (ha : PE X a (tE X.K f)) (hb : PE X b (tE X.K g)) (hc : PE X c (tE X.K h))
    (hm : lastMarks [op, op'] [b, c] = false := by with_unfolding_all rfl) : PE X (.Compare a [op, op'] [b, c] pos) (tE X.K (dChain o o' f g h)) := PE.imp (pe_chain ho ho' ha hb hc hm) fun _ _ _ hh => chain_run hh
theorem pd_chainT {a b c : Expr} {pos : Pos} {op op' : CmpOp} {o o' : D → D → Option A} (ho : OpR X (compareOp op) (rO X.K o)) (ho' : OpR X (compareOp op') (rO X.K o')) (ha : PE X a (tE X.K f)) (hb : PE X b (tE X.K g)) (hc : PE X c (tE X.K h))
    (hm : lastMarks [op, op'] [b, c] = false := by with_unfolding_all rfl) : PT X (.Compare a [op, op'] [b, c] pos) (tT X.K (dTst (dChain o o' f g h))) := by
  refine PT.imp (pt_chain ho ho' ha hb hc hm) fun σ H Q hh => ?_
  obtain ⟨T, sl, io, hR, b, io', e, q⟩ := hh
  exact chain_run (Q := fun x H' => ∃ k, x = .bl k ∧ Q k H') (tst_run ⟨T, sl, io, hR, b, io', e, q⟩)
end
end DD
set_option Elab.async false
set_option linter.all false
set_option maxRecDepth 100000
set_option maxHeartbeats 2000000
namespace DD
open PySem PySem.Spec PyProof.Rows L2

section
variable {X : Cx} {f g h : DE}
/-! ### subscripts -/
theorem ixN_len {n m : Nat} (h : n = m) (i : Int) : ixN n i = ixN m i := by rw [h]
def mkA (d : D) : A := .dat d
def idxD : D → D → Option A
  | .tuple ds, .int i => (atI ds i).map .dat
  | .list ds, .int i => (atI ds i).map .dat
  | .str s, .int i => if s.length ≤ LIM then (atI s.cps.toList i).map fun c => .dat (.str ⟨#[c]⟩) else none
  | _, _ => none
theorem atI_dd {K : PySem.W.Frag} {H : Hp} {xs : List V} {ds : List D} {i : Int} {d : D} (h : DdAll K H xs ds) (e : atI ds i = some d) : ∃ v, atI xs i = some v ∧ Dd K H v d := by
  unfold atI at e ⊢
  rw [ixN_len h.length]
  cases q : ixN ds.length i with
  | none => rw [q] at e; cases e
  | some j =>
    rw [q] at e
    obtain ⟨v, h1, h2⟩ := h.get (i := j) e
    exact ⟨v, h1, h2⟩
def rIO (K : PySem.W.Frag) : R2 := rO K idxD
theorem ix_any : IxR X (rIO X.K) := by
  intro value slice pins s σ H x y v u Q I rx ry ⟨T, d, e, r, hx, hy, ht, ho, q⟩ hs
  unfold idxD at ho
  split at ho
  · rw [Option.map_eq_some_iff] at ho
    obtain ⟨a, e1, rfl⟩ := ho
    cases hy.int
    obtain ⟨p, xs, rfl, hp, hd⟩ := hx.tup
    obtain ⟨z, h1, h2⟩ := atI_dd hd e1
    exact ix_tup value slice pins s σ H _ _ v u Q I rx ry ⟨p, xs, _, z, rfl, rfl, Evl.ex_t out_ex hp, h1, q z H (Ex.refl _) h2⟩ hs
  · rw [Option.map_eq_some_iff] at ho
    obtain ⟨a, e1, rfl⟩ := ho
    cases hy.int
    obtain ⟨p, xs, rfl, hp, hd⟩ := hx.lst
    obtain ⟨z, h1, h2⟩ := atI_dd hd e1
    exact ix_list value slice pins s σ H _ _ v u Q I rx ry ⟨p, xs, _, z, rfl, rfl, SqL.of hp, h1, q z H (Ex.refl _) h2⟩ hs
  · split at ho
    · rw [Option.map_eq_some_iff] at ho
      obtain ⟨c, e1, rfl⟩ := ho
      cases hx.str; cases hy.int
      exact ix_str value slice pins s σ H _ _ v u Q I rx ry ⟨_, _, c, rfl, rfl, lim_le (by assumption), e1, q _ H (Ex.refl _) (.str _)⟩ hs
    · cases ho
  · cases ho
theorem pd_ix {a b : Expr} {pos : Pos} (ha : PE X a (tE X.K f)) (hb : PE X b (tE X.K g)) (hs : PlainIx b := by intro _ _; rfl) : PE X (.Subscript a b pos) (tE X.K (dOp idxD f g)) :=
  PE.imp (pe_ix ix_any ha hb hs) fun _ _ _ hh => op_run hh

/-! ### slices -/
abbrev DO := List S → IO → Option (Option Int × IO)
def tO (K : PySem.W.Frag) (f : DO) : TO := fun σ H Q => ∃ T sl io, Rel K T σ sl io H ∧ ∃ b io', f sl io = some (b, io') ∧ ∀ H', Stp T H H' → IoOk K T io' H' → Q b H'
def dNo : DO := fun _ io => some (none, io)
def dPart (f : DE) : DO := fun sl io => (f sl io).bind fun p => match p.1 with
  | .dat (.int i) => some (some i, p.2)
  | _ => none
theorem PO.imp {e : Option Expr} {t t' : TO} (h : PO X e t) (hi : ∀ σ H Q, t' σ H Q → t σ H Q) : PO X e t' := ⟨fun pins s σ H Q I q => h.run pins s σ H Q I (hi σ H Q q)⟩
theorem po_no : PO X none (tO X.K dNo) := PO.imp po_none fun σ H Q hh => by
  obtain ⟨T, sl, io, hR, b, io', e, q⟩ := hh
  cases e
  exact q H (Stp.refl _ _) hR.io
theorem po_part {e : Expr} (he : PE X e (tE X.K f)) : PO X (some e) (tO X.K (dPart f)) := PO.imp (po_some he) fun σ H Q hh => by
  obtain ⟨T, sl, io, hR, b, io', e, q⟩ := hh
  unfold dPart at e
  simp only [Option.bind_eq_some_iff, Prod.exists] at e
  obtain ⟨a, io1, e1, e2⟩ := e
  split at e2
  · cases e2
    refine one hR e1 fun x H1 s1 i1 v1 => ?_
    have v1' := (VwOk.int (.inl v1))
    subst v1'
    exact ⟨_, rfl, q H1 s1 i1⟩
  · cases e2
/-- a slice of a list -/
def cutD (xs : List D) (lo hi : Option Int) : List D := (xs.drop (HT.sIx xs.length 0 lo)).take (HT.sIx xs.length xs.length hi - HT.sIx xs.length 0 lo)
theorem cut_dd {K : PySem.W.Frag} {H : Hp} {xs : List V} {ds : List D} (h : DdAll K H xs ds) (lo hi : Option Int) : DdAll K H (cutV xs lo hi) (cutD ds lo hi) := by
  unfold cutV cutD
  rw [h.length]
  exact (h.drop _).take _
theorem cutD_whole {xs : List D} {lo hi : Option Int} (h : HT.sIx xs.length 0 lo = 0 ∧ HT.sIx xs.length xs.length hi = xs.length) : cutD xs lo hi = xs := by
  unfold cutD
  rw [h.1, h.2]
  simp
def sliceD (d : D) (lo hi : Option Int) : Option A := match d with
  | .tuple ds => some (.dat (.tuple (cutD ds lo hi)))
  | .list ds => some (.tmp (cutD ds lo hi))
  | .str s => if s.length ≤ LIM then some (.dat (.str (cutS s lo hi))) else none
  | _ => none
def rSlO (K : PySem.W.Frag) : V → Option Int → Option Int → Hp → VK → Prop := fun x lo hi H Q => ∃ T d r, VwOk K T H x d ∧ (∀ p, H p = none → p ∉ T) ∧ sliceD d lo hi = some r ∧ ∀ v H', Ex H H' → VOk K T H H' v r → Q v H'
theorem sl_any : SlR X (rSlO X.K) := by
  intro pins s σ H x v vl vu lo hi sl Q I rx hs pl pu ⟨T, d, r, hx, ht, ho, q⟩
  unfold sliceD at ho
  split at ho
  · cases ho
    obtain ⟨p, xs, rfl, hp, hd⟩ := hx.tup
    refine sl_tupA pins s σ H _ v vl vu lo hi sl Q I rx hs pl pu ⟨p, xs, rfl, Evl.ex_t out_ex hp, fun hw => ?_, fun hw z hz => ?_⟩
    · rw [hd.length] at hw
      exact q _ H (Ex.refl _) (by rw [cutD_whole hw]; exact .tup hp hd)
    · exact q _ _ (Ex.new hz) (dd_newT hz (ht z hz) (cut_dd hd lo hi))
  · cases ho
    obtain ⟨p, xs, rfl, hp, hd⟩ := hx.lst
    exact sl_list pins s σ H _ v vl vu lo hi sl Q I rx hs pl pu ⟨p, xs, rfl, SqL.of hp, fun z hz => q _ _ (Ex.new hz) (vok_newL hz (ht z hz) (cut_dd hd lo hi))⟩
  · split at ho
    · cases ho; cases hx.str
      exact sl_str pins s σ H _ v vl vu lo hi sl Q I rx hs pl pu ⟨_, rfl, lim_le (by assumption), q _ H (Ex.refl _) (.str _)⟩
    · cases ho
  · cases ho
def dSl (f : DE) (lo hi : DO) : DE := fun sl io => (f sl io).bind fun p => (lo sl p.2).bind fun l => (hi sl l.2).bind fun u => (vw u.2 p.1).bind fun d => (sliceD d l.1 u.1).map fun r => (r, u.2)
theorem pd_slice {e : Expr} {lo hi : Option Expr} {dl dh : DO} {pos p2 : Pos} (he : PE X e (tE X.K f)) (hl : PO X lo (tO X.K dl)) (hu : PO X hi (tO X.K dh)) : PE X (.Subscript e (.Slice lo hi none p2) pos) (tE X.K (dSl f dl dh)) := by
  refine PE.imp (pe_slice sl_any he hl hu) fun σ H Q hh => ?_
  obtain ⟨T, sl, io, hR, r, io', e, q⟩ := hh
  unfold dSl at e
  simp only [Option.bind_eq_some_iff, Option.map_eq_some_iff, Prod.exists, Prod.mk.injEq] at e
  obtain ⟨a, io1, e1, l, io2, e2, u, io3, e3, d, e4, r', e5, rfl, rfl⟩ := e
  refine one hR e1 fun x H1 s1 i1 v1 => ⟨T, sl, io1, hR.step s1 i1, l, io2, e2, fun H2 s2 i2 => ⟨T, sl, io2, hR.step (s1.trans s2) i2, u, io3, e3, fun H3 s3 i3 => ?_⟩⟩
  have v3 := (v1.mono s2).mono s3
  have s0 := (s1.trans s2).trans s3
  exact ⟨T, d, _, vw_ok v3 i3 e4, fun p n => i3.fresh n, e5, fun z H' ex vz => q z H' (s0.trans (Stp.of_ex ex)) (i3.ex ex) (vz.back s0)⟩
/-- script[:n] -/
def dScr (i : Nat) (lo hi : DO) : DE := fun sl io => match sl[i]? with
  | some (.scr ns) => (lo sl io).bind fun l => (hi sl l.2).map fun u => (.tmp (cutD (ns.map .int) l.1 u.1), u.2)
  | _ => none
theorem pd_scr {e : Expr} {i : Nat} {lo hi : Option Expr} {dl dh : DO} {pos p2 : Pos} (he : PE X e (tVar i)) (hl : PO X lo (tO X.K dl)) (hu : PO X hi (tO X.K dh)) : PE X (.Subscript e (.Slice lo hi none p2) pos) (tE X.K (dScr i dl dh)) := by
  refine PE.imp (pe_slice sl_list he hl hu) fun σ H Q hh => ?_
  obtain ⟨T, sl, io, hR, r, io', e, q⟩ := hh
  unfold dScr at e
  split at e
  · rename_i ns hs
    obtain ⟨a, ea, hq⟩ := hR.slot i _ hs
    simp only [Option.bind_eq_some_iff, Option.map_eq_some_iff, Prod.exists, Prod.mk.injEq] at e
    obtain ⟨l, io2, e2, u, io3, e3, rfl, rfl⟩ := e
    refine ⟨_, ea, T, sl, io, hR, l, io2, e2, fun H2 s2 i2 => ⟨T, sl, io2, hR.step s2 i2, u, io3, e3, fun H3 s3 i3 => ?_⟩⟩
    have s0 := s2.trans s3
    exact ⟨a, ns.map V.int, rfl, Evl.ex_l out_ex (Evl.ex_l s0.out hq), fun z hz => q _ _ (s0.trans (Stp.of_ex (Ex.new hz))) (i3.ex (Ex.new hz)) ((vok_newL hz (i3.fresh hz) (cut_dd DdAll.ints _ _)).back s0)⟩
  · cases e
def dScrLen (i : Nat) : DE := fun sl io => match sl[i]? with
  | some (.scr ns) => some (.dat (.int ns.length), io)
  | _ => none

/-! ### argument lists -/
def dNil : DA := fun _ io => some ([], io)
def dCons (f : DE) (g : DA) : DA := fun sl io => (f sl io).bind fun p => (g sl p.2).map fun q => (p.1 :: q.1, q.2)
theorem pda_nil : PA X [] (tA X.K dNil) := PA.imp pa_nil fun σ H Q hh => by
  obtain ⟨T, sl, io, hR, b, io', e, q⟩ := hh
  cases e
  exact q [] H (Stp.refl _ _) hR.io .nil
theorem pda_cons {e : Expr} {es : List Expr} {g : DA} (ha : PE X e (tE X.K f)) (hr : PA X es (tA X.K g)) (hs : starEach (e :: es) X.env = (false, eval e X.env) :: starEach es X.env := by rfl) : PA X (e :: es) (tA X.K (dCons f g)) := PA.imp (pa_cons ha hr hs) fun σ H Q hh => by
  obtain ⟨T, sl, io, hR, b, io', e, q⟩ := hh
  unfold dCons at e
  simp only [Option.bind_eq_some_iff, Option.map_eq_some_iff, Prod.exists, Prod.mk.injEq] at e
  obtain ⟨a, io1, e1, as, io2, e2, rfl, rfl⟩ := e
  exact one hR e1 fun x H1 s1 i1 v1 => ⟨T, sl, io1, hR.step s1 i1, as, io2, e2, fun vs H2 s2 i2 v2 => q _ H2 (s1.trans s2) i2 (.cons (v1.mono s2) (v2.back s1))⟩
/-- views of several; refs allowed or not -/
def vws (io : IO) : List A → Option (List D)
  | [] => some []
  | a :: as => (vw io a).bind fun d => (vws io as).map fun ds => d :: ds
def vwI : A → Option D
  | .dat d => some d
  | .tmp ds => some (.list ds)
  | .ref _ => none
def vwIs : List A → Option (List D)
  | [] => some []
  | a :: as => (vwI a).bind fun d => (vwIs as).map fun ds => d :: ds
inductive VwAll (K : PySem.W.Frag) (T : List Addr) (H : Hp) : List V → List D → Prop
  | nil : VwAll K T H [] []
  | cons {v : V} {d : D} {vs : List V} {ds : List D} : VwOk K T H v d → VwAll K T H vs ds → VwAll K T H (v :: vs) (d :: ds)
section
variable {K : PySem.W.Frag} {T : List Addr} {H H0 : Hp} {io : IO}
theorem vws_ok (i : IoOk K T io H) : ∀ {vs : List V} {as : List A} {ds : List D}, VOkAll K T H0 H vs as → vws io as = some ds → VwAll K T H vs ds
  | _, _, _, .nil, e => by cases e; exact .nil
  | _, _, _, .cons h t, e => by
    unfold vws at e
    simp only [Option.bind_eq_some_iff, Option.map_eq_some_iff] at e
    obtain ⟨d, e1, ds, e2, rfl⟩ := e
    exact .cons (vw_ok h i e1) (vws_ok i t e2)
theorem vwI_ok {v : V} {a : A} {d : D} (h : VOk K T H0 H v a) (e : vwI a = some d) : Dd K (out T H) v d := by
  cases a with
  | dat d' => cases e; exact h
  | tmp ds =>
    cases e
    obtain ⟨p, xs, rfl, n, nt, hp, hd⟩ := h
    exact .lst (by rw [out_not nt]; exact hp) hd
  | ref k => cases e
theorem vwIs_ok : ∀ {vs : List V} {as : List A} {ds : List D}, VOkAll K T H0 H vs as → vwIs as = some ds → DdAll K (out T H) vs ds
  | _, _, _, .nil, e => by cases e; exact .nil
  | _, _, _, .cons h t, e => by
    unfold vwIs at e
    simp only [Option.bind_eq_some_iff, Option.map_eq_some_iff] at e
    obtain ⟨d, e1, ds, e2, rfl⟩ := e
    exact .cons (vwI_ok h e1) (vwIs_ok t e2)
theorem VwAll.dd : ∀ {vs : List V} {ds : List D}, VwAll K T H vs ds → DdAll K H vs ds
  | _, _, .nil => .nil
  | _, _, .cons h t => .cons h.dd t.dd
end
/-! displays -/
def dTup (g : DA) : DE := fun sl io => (g sl io).bind fun p => (vwIs p.1).bind fun ds => if ds.length ≤ LIM then some (.dat (.tuple ds), p.2) else none
theorem pd_tup {es : List Expr} {g : DA} {x1 : Nat} {pos : Pos} (h : PA X es (tA X.K g)) : PE X (.Tuple es x1 pos) (tE X.K (dTup g)) := PE.imp (pe_tup h) fun σ H Q hh => by
  obtain ⟨T, sl, io, hR, r, io', e, q⟩ := hh
  unfold dTup at e
  simp only [Option.bind_eq_some_iff, Prod.exists] at e
  obtain ⟨as, io1, e1, ds, e2, e3⟩ := e
  split at e3
  · cases e3
    refine ⟨T, sl, io, hR, as, _, e1, fun vs H1 s1 i1 v1 => ?_⟩
    have hd := vwIs_ok v1 e2
    refine ⟨by rw [hd.length]; exact lim_le (by assumption), fun p hp => q _ _ (s1.trans (Stp.of_ex (Ex.new hp))) (i1.ex (Ex.new hp)) (dd_newT hp (i1.fresh hp) hd)⟩
  · cases e3
def dLst (g : DA) : DE := fun sl io => (g sl io).bind fun p => (vwIs p.1).bind fun ds => if ds.length ≤ LIM then some (.tmp ds, p.2) else none
theorem pd_lst {es : List Expr} {g : DA} {pos : Pos} (h : PA X es (tA X.K g)) : PE X (.List es pos) (tE X.K (dLst g)) := PE.imp (pe_lst h) fun σ H Q hh => by
  obtain ⟨T, sl, io, hR, r, io', e, q⟩ := hh
  unfold dLst at e
  simp only [Option.bind_eq_some_iff, Prod.exists] at e
  obtain ⟨as, io1, e1, ds, e2, e3⟩ := e
  split at e3
  · cases e3
    refine ⟨T, sl, io, hR, as, _, e1, fun vs H1 s1 i1 v1 => ?_⟩
    have hd := vwIs_ok v1 e2
    refine ⟨by rw [hd.length]; exact lim_le (by assumption), fun p hp => q _ _ (s1.trans (Stp.of_ex (Ex.new hp))) (i1.ex (Ex.new hp)) ((vok_newL hp (i1.fresh hp) hd).back s1)⟩
  · cases e3

/-! ### builtins called -/
def rC (K : PySem.W.Frag) (o : List D → Option A) : List V → Hp → VK → Prop := fun xs H Q => ∃ T ds r, VwAll K T H xs ds ∧ (∀ p, H p = none → p ∉ T) ∧ o ds = some r ∧ ∀ v H', Ex H H' → VOk K T H H' v r → Q v H'
def dCall (o : List D → Option A) (g : DA) : DE := fun sl io => (g sl io).bind fun p => (vws p.2 p.1).bind fun ds => (o ds).map fun r => (r, p.2)
theorem call_run {o : List D → Option A} {g : DA} {σ : L2.St} {H : Hp} {Q : VK} (hh : tE X.K (dCall o g) σ H Q) : tA X.K g σ H (fun xs H1 => rC X.K o xs H1 Q) := by
  obtain ⟨T, sl, io, hR, r, io', e, q⟩ := hh
  unfold dCall at e
  simp only [Option.bind_eq_some_iff, Option.map_eq_some_iff, Prod.exists, Prod.mk.injEq] at e
  obtain ⟨as, io1, e1, ds, e2, r', e3, rfl, rfl⟩ := e
  exact ⟨T, sl, io, hR, as, _, e1, fun vs H1 s1 i1 v1 => ⟨T, ds, _, vws_ok i1 v1 e2, fun p n => i1.fresh n, e3, fun z H' ex vz => q z H' (s1.trans (Stp.of_ex ex)) (i1.ex ex) (vz.back s1)⟩⟩
theorem pd_callB {x : Str} {id : String} {e : Expr} {es : List Expr} {p pos : Pos} {o : List D → Option A} {g : DA} (hc : CallR X (.builtin id) (rC X.K o)) (hg : Gl X x) (hm : X.mg x = none) (hv : bootBuiltins x = some (.builtin id)) (ha : PA X (e :: es) (tA X.K g))
    (hn : x ≠ "__name__" := by decide) (hdb : (x == ("__debug__" : Str)) = false := by decide) (he : starEach (e :: es) X.env = (false, eval e X.env) :: starEach es X.env := by rfl) (hpl : (backTo pos (starEach es X.env)).any (·.1) = false := by rfl) :
    PE X (.Call (.Name x p) (e :: es) [] pos) (tE X.K (dCall o g)) := PE.imp (pe_callB hc hg hm hv ha hn hdb he hpl) fun _ _ _ hh => call_run hh
theorem pd_callT {x : Str} {id : String} {e : Expr} {es : List Expr} {p pos : Pos} {o : List D → Option A} {g : DA} (hc : CallR X (.type id) (rC X.K o)) (hg : Gl X x) (hm : X.mg x = none) (hv : bootBuiltins x = some (.type id)) (ha : PA X (e :: es) (tA X.K g))
    (hn : x ≠ "__name__" := by decide) (hdb : (x == ("__debug__" : Str)) = false := by decide) (he : starEach (e :: es) X.env = (false, eval e X.env) :: starEach es X.env := by rfl) (hpl : (backTo pos (starEach es X.env)).any (·.1) = false := by rfl) :
    PE X (.Call (.Name x p) (e :: es) [] pos) (tE X.K (dCall o g)) := PE.imp (pe_callTy hc hg hm hv ha hn hdb he hpl) fun _ _ _ hh => call_run hh
def lenD : List D → Option A
  | [.tuple ds] => some (.dat (.int ds.length))
  | [.list ds] => some (.dat (.int ds.length))
  | [.str s] => if s.length ≤ LIM then some (.dat (.int s.length)) else none
  | _ => none
theorem call_lenD : CallR X (.builtin "len") (rC X.K lenD) := by
  intro pins s σ H xs us Q I r ⟨T, ds, a, hx, ht, ho, q⟩
  unfold lenD at ho
  split at ho
  · cases ho
    cases hx with
    | cons hx hn =>
      cases hn
      obtain ⟨p, ys, rfl, hp, hd⟩ := hx.tup
      exact call_len_seq pins s σ H _ us Q I r ⟨p, ys, rfl, .inr (Evl.ex_t out_ex hp), by rw [hd.length]; exact q _ H (Ex.refl _) (.int _)⟩
  · cases ho
    cases hx with
    | cons hx hn =>
      cases hn
      obtain ⟨p, ys, rfl, hp, hd⟩ := hx.lst
      exact call_len_seq pins s σ H _ us Q I r ⟨p, ys, rfl, .inl (SqL.of hp), by rw [hd.length]; exact q _ H (Ex.refl _) (.int _)⟩
  · split at ho
    · cases ho
      cases hx with
      | cons hx hn =>
        cases hn
        cases hx.str
        exact call_len_str pins s σ H _ us Q I r ⟨_, rfl, lim_le (by assumption), q _ H (Ex.refl _) (.int _)⟩
    · cases ho
  · cases ho
def intD : List D → Option A
  | [.int i] => some (.dat (.int i))
  | [.bool b] => some (.dat (.int (if b then 1 else 0)))
  | _ => none
theorem call_intD : CallR X (.type "int") (rC X.K intD) := by
  intro pins s σ H xs us Q I r ⟨T, ds, a, hx, ht, ho, q⟩
  unfold intD at ho
  split at ho
  · cases ho
    cases hx with
    | cons hx hn =>
      cases hn
      cases hx.int
      exact call_int1 pins s σ H _ us Q I r (.inl ⟨_, rfl, q _ H (Ex.refl _) (.int _)⟩)
  · cases ho
    cases hx with
    | cons hx hn =>
      cases hn
      cases hx.bl
      exact call_int1 pins s σ H _ us Q I r (.inr ⟨_, rfl, q _ H (Ex.refl _) (.int _)⟩)
  · cases ho
def strOfD : List D → Option A
  | [.int i] => if i.natAbs < 1000000 then some (.dat (.str (toString i))) else none
  | _ => none
theorem log2_small {n : Nat} (h : n < 1000000) : n.log2 < 1920 := by
  by_cases h0 : n = 0
  · subst h0; decide
  · have := (Nat.log2_lt h0 (k := 1920)).mpr (Nat.lt_of_lt_of_le h (by decide))
    exact this
theorem call_strD : CallR X (.type "str") (rC X.K strOfD) := by
  intro pins s σ H xs us Q I r ⟨T, ds, a, hx, ht, ho, q⟩
  unfold strOfD at ho
  split at ho
  · split at ho
    · cases ho
      cases hx with
      | cons hx hn =>
        cases hn
        cases hx.int
        exact call_str_int pins s σ H _ us Q I r ⟨_, rfl, log2_small (by assumption), q _ H (Ex.refl _) (.str _)⟩
    · cases ho
  · cases ho
def maxD : List D → Option A
  | [.int i, .int j] => some (.dat (.int (if j > i then j else i)))
  | _ => none
theorem call_maxD (hc : X.calm = true) : CallR X (.builtin "max") (rC X.K maxD) := by
  intro pins s σ H xs us Q I r ⟨T, ds, a, hx, ht, ho, q⟩
  unfold maxD at ho
  split at ho
  · cases ho
    cases hx with
    | cons hx hn =>
      cases hn with
      | cons hy hn =>
        cases hn
        cases hx.int; cases hy.int
        exact call_max2 hc pins s σ H _ us Q I r ⟨_, _, rfl, q _ H (Ex.refl _) (.int _)⟩
  · cases ho
def minD : List D → Option A
  | [.int i, .int j] => some (.dat (.int (if j < i then j else i)))
  | _ => none
theorem call_minD (hc : X.calm = true) : CallR X (.builtin "min") (rC X.K minD) := by
  intro pins s σ H xs us Q I r ⟨T, ds, a, hx, ht, ho, q⟩
  unfold minD at ho
  split at ho
  · cases ho
    cases hx with
    | cons hx hn =>
      cases hn with
      | cons hy hn =>
        cases hn
        cases hx.int; cases hy.int
        exact call_min2 hc pins s σ H _ us Q I r ⟨_, _, rfl, q _ H (Ex.refl _) (.int _)⟩
  · cases ho
def tupleD : List D → Option A
  | [.list ds] => some (.dat (.tuple ds))
  | [.tuple ds] => some (.dat (.tuple ds))
  | _ => none
theorem call_tupleD : CallR X (.type "tuple") (rC X.K tupleD) := by
  intro pins s σ H xs us Q I r ⟨T, ds, a, hx, ht, ho, q⟩
  unfold tupleD at ho
  split at ho
  · cases ho
    cases hx with
    | cons hx hn =>
      cases hn
      obtain ⟨p, ys, rfl, hp, hd⟩ := hx.lst
      exact call_tuple_of pins s σ H _ us Q I r ⟨p, ys, rfl, .inl ⟨SqL.of hp, fun z hz => q _ _ (Ex.new hz) (dd_newT hz (ht z hz) hd)⟩⟩
  · cases ho
    cases hx with
    | cons hx hn =>
      cases hn
      obtain ⟨p, ys, rfl, hp, hd⟩ := hx.tup
      exact call_tuple_of pins s σ H _ us Q I r ⟨p, ys, rfl, .inr ⟨Evl.ex_t out_ex hp, q _ _ (Ex.refl _) (.tup hp hd)⟩⟩
  · cases ho
def listD : List D → Option A
  | [.list ds] => some (.tmp ds)
  | [.tuple ds] => some (.tmp ds)
  | _ => none
theorem call_listD : CallR X (.type "list") (rC X.K listD) := by
  intro pins s σ H xs us Q I r ⟨T, ds, a, hx, ht, ho, q⟩
  unfold listD at ho
  split at ho
  · cases ho
    cases hx with
    | cons hx hn =>
      cases hn
      obtain ⟨p, ys, rfl, hp, hd⟩ := hx.lst
      exact call_list_of pins s σ H _ us Q I r ⟨p, ys, rfl, .inl (SqL.of hp), fun z hz => q _ _ (Ex.new hz) (vok_newL hz (ht z hz) hd)⟩
  · cases ho
    cases hx with
    | cons hx hn =>
      cases hn
      obtain ⟨p, ys, rfl, hp, hd⟩ := hx.tup
      exact call_list_of pins s σ H _ us Q I r ⟨p, ys, rfl, .inr (Evl.ex_t out_ex hp), fun z hz => q _ _ (Ex.new hz) (vok_newL hz (ht z hz) hd)⟩
  · cases ho
/-! isinstance(x, T), T a built-in type -/
def tyOfD : D → Option String
  | .none => some "NoneType"
  | .bool _ => some "bool"
  | .int _ => some "int"
  | .str _ => some "str"
  | .list _ => some "list"
  | .tuple _ => some "tuple"
  | .dict _ => none
def isiD (ty : String) (d : D) : Option A := (tyOfD d).bind fun t => (kitB t ty).map blA
theorem tyX_of {K : PySem.W.Frag} {H : Hp} {x : V} {d : D} {t : String} (h : Dd K H x d) (e : tyOfD d = some t) : TyX K H x (.type t) := by
  cases h with
  | non => cases e; exact .base .non
  | bl b => cases e; exact .base (.bl b)
  | int i => cases e; exact .base (.int i)
  | str s => cases e; exact .base (.str s)
  | lst h1 h2 => cases e; exact .base (.lst h1)
  | exc _ _ => cases e
  | exf _ _ _ _ => cases e
  | tup h1 h2 =>
    cases e
    rcases h1 with (h1 | ⟨o, h1⟩) | ⟨o, its, n, h1, h2, _⟩
    · exact .base (.tup h1)
    · exact .fTuple h1
    · exact .kTuple h1 h2
def dIsi (ty : String) (f : DE) : DE := fun sl io => (f sl io).bind fun p => (vw p.2 p.1).bind fun d => (isiD ty d).map fun r => (r, p.2)
theorem pd_isi {ty : String} {tyN : Str} {e : Expr} {p p2 pos : Pos} (hg : Gl X "isinstance") (hm : X.mg "isinstance" = none) (hg2 : Gl X tyN) (hm2 : X.mg tyN = none) (hv2 : bootBuiltins tyN = some (.type ty)) (ha : PE X e (tE X.K f))
    (hv : bootBuiltins "isinstance" = some (.builtin "isinstance") := by decide +kernel) (hn2 : tyN ≠ "__name__" := by decide) (hdb2 : (tyN == ("__debug__" : Str)) = false := by decide)
    (hs : starEach [e, .Name tyN p2] X.env = (false, eval e X.env) :: starEach [.Name tyN p2] X.env := by rfl) (hs2 : starEach [.Name tyN p2] X.env = (false, eval (.Name tyN p2) X.env) :: starEach [] X.env := by rfl) (hpl : (backTo pos (starEach [.Name tyN p2] X.env)).any (·.1) = false := by rfl) :
    PE X (.Call (.Name "isinstance" p) [e, .Name tyN p2] [] pos) (tE X.K (dIsi ty f)) := by
  refine PE.imp (pe_callB call_isi hg hm hv (pa_cons ha (pa_cons (pe_bltn (v := .ty ty) hg2 hm2 hv2 rfl hn2 hdb2) pa_nil hs2) hs) (by decide) (by decide) hs hpl) fun σ H Q hh => ?_
  obtain ⟨T, sl, io, hR, r, io', e, q⟩ := hh
  unfold dIsi isiD at e
  simp only [Option.bind_eq_some_iff, Option.map_eq_some_iff, Prod.exists, Prod.mk.injEq] at e
  obtain ⟨a, io1, e1, d, e2, r', ⟨t, e3, b, e4, rfl⟩, rfl, rfl⟩ := e
  refine one hR e1 fun x H1 s1 i1 v1 => ?_
  exact ⟨x, .ty ty, .type t, .type ty, b, rfl, .ty ty, tyX_of (vw_ok v1 i1 e2).dd e3, kit_ty e4, q _ H1 s1 i1 (.bl _)⟩

/-! ### methods of texts -/
def rM (K : PySem.W.Frag) (o : Str → List D → Option A) : V → List V → Hp → VK → Prop := fun x xs H Q => ∃ T z ds r, x = .str z ∧ VwAll K T H xs ds ∧ (∀ p, H p = none → p ∉ T) ∧ o z ds = some r ∧ ∀ v H', Ex H H' → VOk K T H H' v r → Q v H'
def dMeth (o : Str → List D → Option A) (f : DE) (g : DA) : DE := fun sl io => (f sl io).bind fun p => match p.1 with
  | .dat (.str z) => (g sl p.2).bind fun q => (vws q.2 q.1).bind fun ds => (o z ds).map fun r => (r, q.2)
  | _ => none
theorem pd_meth {o : Expr} {e : Expr} {es : List Expr} {name : Str} {id : String} {apos cpos : Pos} {oo : Str → List D → Option A} {g : DA} (slot : Slot "str" name id) (hty : typeOf (.builtin id) = pure (.type "method_descriptor")) (hm : MtR X id (rM X.K oo)) (ho : PE X o (tE X.K f)) (ha : PA X (e :: es) (tA X.K g))
    (hbase : attributeBase o name X.env (eval o X.env) = eval o X.env := by rfl)
    (hfew : ((backTo cpos (starEach (e :: es) X.env)).all (fun x => !x.1) && (backToKw cpos (keywordEach [] X.env)).all (fun x => x.1.isSome)
      && decide ((e :: es).length + ([] : List Keyword).length + (if ([] : List Keyword).isEmpty then 0 else 1) < 30)) = true := by rfl)
    (hline : (apos.endLine == cpos.line) = true := by rfl) (hs : starEach (e :: es) X.env = (false, eval e X.env) :: starEach es X.env := by rfl) (hplain : (backTo cpos (starEach es X.env)).any (·.1) = false := by rfl) :
    PE X (.Call (.Attribute o name apos) (e :: es) [] cpos) (tE X.K (dMeth oo f g)) := by
  refine PE.imp (pe_bm PySem.F.plainAttrs_str slot hty hm ho ha hbase hfew hline hs hplain) fun σ H Q hh => ?_
  obtain ⟨T, sl, io, hR, r, io', e, q⟩ := hh
  unfold dMeth at e
  simp only [Option.bind_eq_some_iff, Prod.exists] at e
  obtain ⟨a, io1, e1, e2⟩ := e
  split at e2
  · rename_i z
    simp only [Option.bind_eq_some_iff, Option.map_eq_some_iff, Prod.exists, Prod.mk.injEq] at e2
    obtain ⟨as, io2, e3, ds, e4, r', e5, rfl, rfl⟩ := e2
    refine one hR e1 fun x H1 s1 i1 v1 => ?_
    have v1' := VwOk.str (.inl v1)
    subst v1'
    refine ⟨rfl, T, sl, io1, hR.step s1 i1, as, _, e3, fun vs H2 s2 i2 v2 => ?_⟩
    exact ⟨T, z, ds, _, rfl, vws_ok i2 v2 e4, fun p n => i2.fresh n, e5, fun v H' ex vz => q v H' ((s1.trans s2).trans (Stp.of_ex ex)) (i2.ex ex) (vz.back (s1.trans s2))⟩
  · cases e2
def splitD (z : Str) : List D → Option A
  | [.str b] => if (b.length == 0) = false ∧ z.length ≤ LIM then some (.tmp ((Txt.split z b).map .str)) else none
  | _ => none
theorem mt_splitD : MtR X "str.split" (rM X.K splitD) := by
  intro pins s σ H x xs v us Q I rx rs ⟨T, z, ds, a, ez, hx, ht, ho, q⟩
  subst ez
  unfold splitD at ho
  split at ho
  · split at ho
    · rename_i hl
      cases ho
      cases hx with
      | cons hx hn =>
        cases hn
        cases hx.str
        refine mt_split pins s σ H _ _ v us Q I rx rs ⟨z, _, rfl, rfl, hl.1, ?_, fun p hp => q _ _ (Ex.new hp) (vok_newL hp (ht p hp) DdAll.strs)⟩
        have := hl.2
        unfold LIM at this
        rw [sizeLine_eq]; omega
    · cases ho
  · cases ho
def strsOf : List D → Option (List Str)
  | [] => some []
  | .str s :: r => (strsOf r).map fun l => s :: l
  | _ => none
theorem strsOf_ok {K : PySem.W.Frag} {H : Hp} : ∀ {xs : List V} {ds : List D} {ss : List Str}, DdAll K H xs ds → strsOf ds = some ss → xs = ss.map V.str
  | _, _, _, .nil, e => by cases e; rfl
  | _, _, _, .cons h t, e => by
    unfold strsOf at e
    split at e
    · rename_i heq; cases heq
    · rename_i s r heq
      cases heq
      rw [Option.map_eq_some_iff] at e
      obtain ⟨l, e1, rfl⟩ := e
      cases h
      rw [List.map_cons, strsOf_ok t e1]
    · cases e
theorem strsOf_map (ss : List Str) : strsOf (ss.map .str) = some ss := by
  induction ss with
  | nil => rfl
  | cons s r ih => rw [List.map_cons, strsOf, ih]; rfl
def joinLen (z : Str) (ss : List Str) : Nat := (ss.map (·.length)).sum + ss.length * z.length
def joinD (z : Str) : List D → Option A
  | [.list ds] => (strsOf ds).bind fun ss => if joinLen z ss ≤ LIM then some (.dat (.str (Txt.join z ss))) else none
  | [.tuple ds] => (strsOf ds).bind fun ss => if joinLen z ss ≤ LIM then some (.dat (.str (Txt.join z ss))) else none
  | _ => none
theorem mt_joinD : MtR X "str.join" (rM X.K joinD) := by
  intro pins s σ H x xs v us Q I rx rs ⟨T, z, ds, a, ez, hx, ht, ho, q⟩
  subst ez
  unfold joinD at ho
  split at ho
  · rw [Option.bind_eq_some_iff] at ho
    obtain ⟨ss, e1, ho⟩ := ho
    split at ho
    · rename_i hl
      cases ho
      cases hx with
      | cons hx hn =>
        cases hn
        obtain ⟨p, ys, rfl, hp, hd⟩ := hx.lst
        cases strsOf_ok hd e1
        refine mt_join pins s σ H _ _ v us Q I rx rs ⟨z, p, ss, rfl, rfl, .inl (SqL.of hp), Nat.le_trans hl (by decide), q _ _ (Ex.refl _) (.str _)⟩
    · cases ho
  · rw [Option.bind_eq_some_iff] at ho
    obtain ⟨ss, e1, ho⟩ := ho
    split at ho
    · rename_i hl
      cases ho
      cases hx with
      | cons hx hn =>
        cases hn
        obtain ⟨p, ys, rfl, hp, hd⟩ := hx.tup
        cases strsOf_ok hd e1
        refine mt_join pins s σ H _ _ v us Q I rx rs ⟨z, p, ss, rfl, rfl, .inr (Evl.ex_t out_ex hp), Nat.le_trans hl (by decide), q _ _ (Ex.refl _) (.str _)⟩
    · cases ho
  · cases ho
def indexD (z : Str) : List D → Option A
  | [.str b] => match Builtin.Str.occurrences z b 0 z.length 1 with
    | i :: _ => some (.dat (.int (i : Nat)))
    | [] => none
  | _ => none
theorem mt_indexD : MtR X "str.index" (rM X.K indexD) := by
  intro pins s σ H x xs v us Q I rx rs ⟨T, z, ds, a, ez, hx, ht, ho, q⟩
  subst ez
  unfold indexD at ho
  split at ho
  · split at ho
    · rename_i i r hoc
      cases ho
      cases hx with
      | cons hx hn =>
        cases hn
        cases hx.str
        exact mt_sindex pins s σ H _ _ v us Q I rx rs ⟨z, _, i, r, rfl, rfl, hoc, q _ _ (Ex.refl _) (.int _)⟩
    · cases ho
  · cases ho
end
end DD
set_option Elab.async false
set_option linter.all false
set_option maxRecDepth 100000
set_option maxHeartbeats 2000000
namespace DD
open PySem PySem.Spec PyProof.Rows L2

/-! ### promises of defs -/
def FROk (K : PySem.W.Frag) (H H' : Hp) (v : V) : A → Prop
  | .dat d => Dd K H' v d ∧ im d = true
  | .tmp ds => ∃ p xs, v = .ref p ∧ H p = none ∧ H' p = some (.lst xs) ∧ DdAll K H' xs ds ∧ imAll ds = true
  | .ref _ => False
/-- data in, data out -/
def spD (K : PySem.W.Frag) (F : List D → Option A) : Sp := fun vs H Q _ => ∃ ds r, DdAll K H vs ds ∧ F ds = some r ∧ ∀ v H', Ex H H' → FROk K H H' v r → Q v H'
/-- the first argument is a list that is changed -/
def spJ (K : PySem.W.Frag) (F : List D → List D → Option (A × List D)) : Sp := fun vs H Q _ => ∃ p vs' xs js ds r js', vs = .ref p :: vs' ∧ H p = some (.lst xs) ∧ DdAll K (out [p] H) xs js ∧ imAll js = true ∧ DdAll K (out [p] H) vs' ds ∧ F js ds = some (r, js') ∧
  ∀ v H', (∀ b o, b ≠ p → H b = some o → H' b = some o) → (∃ xs', H' p = some (.lst xs') ∧ DdAll K (out [p] H') xs' js' ∧ imAll js' = true) → FROk K H H' v r → Q v H'
section
variable {X : Cx} {f g h : DE}
theorem fr_vok {K : PySem.W.Frag} {T : List Addr} {H H' : Hp} {v : V} {r : A} (ht : TL T H') (hn : ∀ p, H p = none → p ∉ T) (h : FROk K H H' v r) : VOk K T H H' v r := by
  cases r with
  | dat d => exact h.1.imOut ht h.2
  | tmp ds => obtain ⟨p, xs, e, n, hp, hd, hi⟩ := h; exact ⟨p, xs, e, n, hn p n, hp, hd.imOut ht hi⟩
  | ref k => exact h.elim
/-! ### calls of defs -/
def dFn (F : List D → Option A) (g : DA) : DE := dCall F g
theorem fn_run {F : List D → Option A} {g : DA} {E : XK} {σ : L2.St} {H : Hp} {Q : VK} (hh : tE X.K (dFn F g) σ H Q) : tCall (spD X.K F) [] E (tA X.K g) σ H Q := by
  obtain ⟨T, sl, io, hR, r, io', e, q⟩ := hh
  unfold dFn dCall at e
  simp only [Option.bind_eq_some_iff, Option.map_eq_some_iff, Prod.exists, Prod.mk.injEq] at e
  obtain ⟨as, io1, e1, ds, e2, r', e3, rfl, rfl⟩ := e
  refine ⟨T, sl, io, hR, as, _, e1, fun vs H1 s1 i1 v1 => ?_⟩
  show spD X.K F (vs ++ []) H1 Q E
  rw [List.append_nil]
  refine ⟨ds, _, (vws_ok i1 v1 e2).dd, e3, fun v H' ex hr => q v H' (s1.trans (Stp.of_ex ex)) (i1.ex ex) ?_⟩
  exact (fr_vok (i1.ex ex).tl (fun p n => i1.fresh n) hr).back s1
theorem pd_fn {CX : CXT} {k : Nat} {fa : Addr} {fd : FuncData} {ps : List Str} {E : XK} {x : Str} {p pos : Pos} {e : Expr} {es : List Expr} {F : List D → Option A} {g : DA} (G : FnOk X.prog X.w X.K X.mg X.base CX k fa fd ps (spD X.K F)) (hr : Room k X.A) (hg : Gl X x) (hm : X.mg x = some (.ref fa)) (hk : PySem.W.keepIn X.K (.ref fa) = true) (hb : Binds X.K fd ps []) (hx : Passes CX X E)
    (ha : PA X (e :: es) (tA X.K g)) (hdb : (x == ("__debug__" : Str)) = false := by decide) (he : starEach (e :: es) X.env = (false, eval e X.env) :: starEach es X.env := by rfl) (hpl : (backTo pos (starEach es X.env)).any (·.1) = false := by rfl) :
    PE X (.Call (.Name x p) (e :: es) [] pos) (tE X.K (dFn F g)) := PE.imp (pe_call G hr hg hm hk hb .nil hx ha hdb he hpl) fun _ _ _ hh => fn_run hh
/-- the views of the other arguments where the list k is given to be changed -/
def vwN (io : IO) (k : Nat) : A → Option D
  | .dat d => some d
  | .tmp ds => some (.list ds)
  | .ref j => if j = k then none else io[j]?.map .list
def vwNs (io : IO) (k : Nat) : List A → Option (List D)
  | [] => some []
  | a :: as => (vwN io k a).bind fun d => (vwNs io k as).map fun ds => d :: ds
section
variable {K : PySem.W.Frag} {T : List Addr} {H H0 : Hp} {io : IO}
theorem out_one {T : List Addr} {H : Hp} {p : Addr} (hp : p ∈ T) : Ex (out T H) (out [p] H) := fun b o h => by
  obtain ⟨n, e⟩ := out_some h
  rw [out_not (by intro z; rw [List.mem_singleton.mp z] at n; exact n hp)]; exact e
theorem vwN_ok (i : IoOk K T io H) {k : Nat} {p : Addr} (hp : T[k]? = some p) {v : V} {a : A} {d : D} (h : VOk K T H0 H v a) (e : vwN io k a = some d) : Dd K (out [p] H) v d := by
  have hm : p ∈ T := List.mem_iff_getElem?.mpr ⟨k, hp⟩
  cases a with
  | dat d' => cases e; exact Dd.mono (out_one hm) h
  | tmp ds =>
    cases e
    obtain ⟨p', xs, rfl, n, nt, hp', hd⟩ := h
    exact .lst (by rw [out_not (by intro z; rw [List.mem_singleton.mp z] at nt; exact nt hm)]; exact hp') (hd.mono (out_one hm))
  | ref j =>
    simp only [vwN] at e
    split at e
    · cases e
    · rename_i hj
      obtain ⟨p', ep, rfl⟩ := h
      obtain ⟨ds, xs, e1, e2, e3, _⟩ := i.at_ j p' ep
      rw [e1] at e
      cases e
      have hne : p' ≠ p := fun z => by
        subst z
        obtain ⟨l1, q1⟩ := List.getElem?_eq_some_iff.mp hp
        obtain ⟨l2, q2⟩ := List.getElem?_eq_some_iff.mp ep
        exact hj ((List.getElem_inj i.nd).mp (q2.trans q1.symm))
      exact .lst (by rw [out_not (by intro z; exact hne (List.mem_singleton.mp z))]; exact e2) (e3.mono (out_one hm))
theorem vwNs_ok (i : IoOk K T io H) {k : Nat} {p : Addr} (hp : T[k]? = some p) : ∀ {vs : List V} {as : List A} {ds : List D}, VOkAll K T H0 H vs as → vwNs io k as = some ds → DdAll K (out [p] H) vs ds
  | _, _, _, .nil, e => by cases e; exact .nil
  | _, _, _, .cons h t, e => by
    unfold vwNs at e
    simp only [Option.bind_eq_some_iff, Option.map_eq_some_iff] at e
    obtain ⟨d, e1, ds, e2, rfl⟩ := e
    exact .cons (vwN_ok i hp h e1) (vwNs_ok i hp t e2)
/-- the list k changed by a callee or a store -/
theorem IoOk.chg (i : IoOk K T io H) {H' : Hp} {k : Nat} {p : Addr} {js : List D} {xs : List V} (hp : T[k]? = some p) (keep : ∀ b o, b ≠ p → H b = some o → H' b = some o) (hn : H' p = some (.lst xs)) (hd : DdAll K H' xs js) (hi : imAll js = true) : IoOk K T (io.set k js) H' ∧ Stp T H H' := by
  have hm : p ∈ T := List.mem_iff_getElem?.mpr ⟨k, hp⟩
  have st : Stp T H H' := ⟨fun b o n e => keep b o (fun z => n (z ▸ hm)) e, fun b e => by
    by_cases z : b = p
    · subst z; rw [hn]; exact fun q => nomatch q
    · cases q : H b with
      | none => exact absurd q e
      | some o => rw [keep b o z q]; exact fun q => nomatch q⟩
  have tl : TL T H' := fun b hb => by
    by_cases z : b = p
    · subst z; exact ⟨xs, hn⟩
    · obtain ⟨ys, e⟩ := i.tl b hb
      exact ⟨ys, keep b _ z e⟩
  refine ⟨⟨i.nd, by rw [List.length_set]; exact i.len, fun j q hq => ?_⟩, st⟩
  by_cases hj : j = k
  · subst hj
    rw [hp] at hq
    cases hq
    have hl : j < io.length := by rw [← i.len]; exact (List.getElem?_eq_some_iff.mp hp).1
    exact ⟨js, xs, by rw [List.getElem?_set_self hl], hn, hd.imOut tl hi, hi⟩
  · obtain ⟨ds, ys, e1, e2, e3, e4⟩ := i.at_ j q hq
    have hne : q ≠ p := fun z => by
      subst z
      obtain ⟨l1, q1⟩ := List.getElem?_eq_some_iff.mp hp
      obtain ⟨l2, q2⟩ := List.getElem?_eq_some_iff.mp hq
      exact hj ((List.getElem_inj i.nd).mp (q2.trans q1.symm))
    exact ⟨ds, ys, by rw [List.getElem?_set_ne (Ne.symm hj)]; exact e1, keep q _ hne e2, e3.mono st.out, e4⟩
end
def dFnJ (F : List D → List D → Option (A × List D)) (g : DA) : DE := fun sl io => (g sl io).bind fun p => match p.1 with
  | .ref k :: as => (p.2[k]?).bind fun js => (vwNs p.2 k as).bind fun ds => (F js ds).map fun r => (r.1, p.2.set k r.2)
  | _ => none
theorem fnJ_run {F : List D → List D → Option (A × List D)} {g : DA} {E : XK} {σ : L2.St} {H : Hp} {Q : VK} (hh : tE X.K (dFnJ F g) σ H Q) : tCall (spJ X.K F) [] E (tA X.K g) σ H Q := by
  obtain ⟨T, sl, io, hR, r, io', e, q⟩ := hh
  unfold dFnJ at e
  simp only [Option.bind_eq_some_iff, Prod.exists] at e
  obtain ⟨as, io1, e1, e2⟩ := e
  split at e2
  · rename_i k as'
    simp only [Option.bind_eq_some_iff, Option.map_eq_some_iff, Prod.exists, Prod.mk.injEq] at e2
    obtain ⟨js, e3, ds, e4, r', js', e5, rfl, rfl⟩ := e2
    refine ⟨T, sl, io, hR, _, _, e1, fun vs H1 s1 i1 v1 => ?_⟩
    show spJ X.K F (vs ++ []) H1 Q E
    rw [List.append_nil]
    cases v1 with
    | cons hv ht =>
      obtain ⟨p, hp, rfl⟩ := hv
      obtain ⟨js2, xs, q1, q2, q3, q4⟩ := i1.at_ k p hp
      rw [e3] at q1
      cases q1
      have hm : p ∈ T := List.mem_iff_getElem?.mpr ⟨k, hp⟩
      refine ⟨p, _, xs, js, ds, _, js', rfl, q2, q3.mono (out_one hm), q4, vwNs_ok i1 hp ht e4, e5, fun v H' keep hj hr => ?_⟩
      obtain ⟨xs', w1, w2, w3⟩ := hj
      obtain ⟨i2, s2⟩ := i1.chg hp keep w1 (w2.mono out_ex) w3
      exact q v H' (s1.trans s2) i2 ((fr_vok i2.tl (fun p n => i1.fresh n) hr).back s1)
  · cases e2
theorem pd_fnJ {CX : CXT} {k : Nat} {fa : Addr} {fd : FuncData} {ps : List Str} {E : XK} {x : Str} {p pos : Pos} {e : Expr} {es : List Expr} {F : List D → List D → Option (A × List D)} {g : DA} (G : FnOk X.prog X.w X.K X.mg X.base CX k fa fd ps (spJ X.K F)) (hr : Room k X.A) (hg : Gl X x) (hm : X.mg x = some (.ref fa)) (hk : PySem.W.keepIn X.K (.ref fa) = true) (hb : Binds X.K fd ps []) (hx : Passes CX X E)
    (ha : PA X (e :: es) (tA X.K g)) (hdb : (x == ("__debug__" : Str)) = false := by decide) (he : starEach (e :: es) X.env = (false, eval e X.env) :: starEach es X.env := by rfl) (hpl : (backTo pos (starEach es X.env)).any (·.1) = false := by rfl) :
    PE X (.Call (.Name x p) (e :: es) [] pos) (tE X.K (dFnJ F g)) := PE.imp (pe_call G hr hg hm hk hb .nil hx ha hdb he hpl) fun _ _ _ hh => fnJ_run hh
/-! keywords alone -/
theorem pe_callK0 {CX : CXT} {k : Nat} {fa : Addr} {fd : FuncData} {ps ks : List Str} {sp : Sp} {E : XK} {x : Str} {p pos : Pos} {kws : List Keyword} {tk : TA} {gg : List Value → List Value → List Value} {gV : List V → List V → List V} (F : FnOk X.prog X.w X.K X.mg X.base CX k fa fd ps sp) (hr : Room k X.A) (hg : Gl X x) (hm : X.mg x = some (.ref fa)) (hk : PySem.W.keepIn X.K (.ref fa) = true) (hb : KBinds X.K fd ps ks gg gV) (hx : Passes CX X E)
    (hkw : PK X kws tk) (hall : (backToKw pos (keywordEach kws X.env)).all (·.1.isSome) = true := by rfl) (hks : (backToKw pos (keywordEach kws X.env)).filterMap (·.1) = ks := by rfl)
    (hdb : (x == ("__debug__" : Str)) = false := by decide) (hpl : ((backTo pos (starEach [] X.env)).any (·.1) || (backToKw pos (keywordEach kws X.env)).any (·.1.isNone)) = false := by rfl) :
    PE X (.Call (.Name x p) [] kws pos) (tCallK sp gV E tNil tk) := by
  refine ⟨fun pins s σ H Q I h => ?_⟩
  refine wpAny_Call_Name_kw (ld_glob I hg hm ?_ hdb)
  have h' : tk σ H fun zs H2 => sp (gV [] zs) H2 Q E := h
  refine PySem.W.callWith_KW0 (h₀ := X.base) I.ok.mod.kin hk hall (thn (hkw.run pos pins s σ H _ I h') fun ws s2 ⟨zs, H2, I2, rz, q2⟩ => ⟨I2.kIn, ?_⟩) hpl
  rw [hks]
  exact run_fnk F hr hb hx I2 .nil rz q2
theorem PK.imp {kws : List Keyword} {t t' : TA} (h : PK X kws t) (hi : ∀ σ H Q, t' σ H Q → t σ H Q) : PK X kws t' := ⟨fun pos pins s σ H Q I q => h.run pos pins s σ H Q I (hi σ H Q q)⟩
theorem pdk_nil : PK X [] (tA X.K dNil) := PK.imp pk_nil fun σ H Q hh => by
  obtain ⟨T, sl, io, hR, b, io', e, q⟩ := hh
  cases e
  exact q [] H (Stp.refl _ _) hR.io .nil
theorem pdk_cons {e : Expr} {kws : List Keyword} {nm : Option Str} {kpos : Pos} {g : DA} (ha : PE X e (tE X.K f)) (hr : PK X kws (tA X.K g)) : PK X (⟨nm, e, kpos⟩ :: kws) (tA X.K (dCons f g)) := PK.imp (pk_cons ha hr) fun σ H Q hh => by
  obtain ⟨T, sl, io, hR, b, io', e, q⟩ := hh
  unfold dCons at e
  simp only [Option.bind_eq_some_iff, Option.map_eq_some_iff, Prod.exists, Prod.mk.injEq] at e
  obtain ⟨a, io1, e1, as, io2, e2, rfl, rfl⟩ := e
  exact one hR e1 fun x H1 s1 i1 v1 => ⟨T, sl, io1, hR.step s1 i1, as, io2, e2, fun vs H2 s2 i2 v2 => q _ H2 (s1.trans s2) i2 (.cons (v1.mono s2) (v2.back s1))⟩
/-- the values of keywords alone, in the parameters' order -/
def kw1 {α : Type} : List α → List α → List α
  | [], ws => ws
  | _, _ => []
def flip2 {α : Type} : List α → List α
  | [a, b] => [b, a]
  | l => l
def kw2 {α : Type} : List α → List α → List α
  | [], ws => flip2 ws
  | _, _ => []
/-- keywords in the parameters' order -/
theorem pd_fnK1 {CX : CXT} {k : Nat} {fa : Addr} {fd : FuncData} {ps ks : List Str} {E : XK} {x : Str} {p pos : Pos} {kws : List Keyword} {F : List D → Option A} {g : DA} (G : FnOk X.prog X.w X.K X.mg X.base CX k fa fd ps (spD X.K F)) (hr : Room k X.A) (hg : Gl X x) (hm : X.mg x = some (.ref fa)) (hk : PySem.W.keepIn X.K (.ref fa) = true) (hb : KBinds X.K fd ps ks kw1 kw1) (hx : Passes CX X E)
    (hkw : PK X kws (tA X.K g)) (hall : (backToKw pos (keywordEach kws X.env)).all (·.1.isSome) = true := by rfl) (hks : (backToKw pos (keywordEach kws X.env)).filterMap (·.1) = ks := by rfl)
    (hdb : (x == ("__debug__" : Str)) = false := by decide) (hpl : ((backTo pos (starEach [] X.env)).any (·.1) || (backToKw pos (keywordEach kws X.env)).any (·.1.isNone)) = false := by rfl) :
    PE X (.Call (.Name x p) [] kws pos) (tE X.K (dFn F g)) := PE.imp (pe_callK0 G hr hg hm hk hb hx hkw hall hks hdb hpl) fun σ H Q hh => by
  have := fn_run (E := E) hh
  unfold tCall at this
  simp only [List.append_nil] at this
  exact this
/-- two keywords, the two parameters the other way round -/
def dFlip (g : DA) : DA := fun sl io => (g sl io).map fun p => (flip2 p.1, p.2)
theorem VOkAll.flip {K : PySem.W.Frag} {T : List Addr} {H H' : Hp} : ∀ {vs : List V} {as : List A}, VOkAll K T H H' vs as → VOkAll K T H H' (flip2 vs) (flip2 as)
  | _, _, .nil => .nil
  | _, _, .cons h .nil => .cons h .nil
  | _, _, .cons h (.cons h2 .nil) => .cons h2 (.cons h .nil)
  | _, _, .cons h (.cons h2 (.cons h3 t)) => .cons h (.cons h2 (.cons h3 t))
theorem Vals.flip2 : ∀ {vs : List V} {us : List Value}, Vals vs us → Vals (flip2 vs) (flip2 us)
  | _, _, .nil => .nil
  | _, _, .cons h .nil => .cons h .nil
  | _, _, .cons h (.cons h2 .nil) => .cons h2 (.cons h .nil)
  | _, _, .cons h (.cons h2 (.cons h3 t)) => .cons h (.cons h2 (.cons h3 t))
theorem Vals.kw1 : ∀ {vs : List V} {us : List Value} {zs : List V} {ws : List Value}, Vals vs us → Vals zs ws → Vals (kw1 vs zs) (kw1 us ws)
  | _, _, _, _, .nil, h => h
  | _, _, _, _, .cons _ _, _ => .nil
theorem Vals.kw2 : ∀ {vs : List V} {us : List Value} {zs : List V} {ws : List Value}, Vals vs us → Vals zs ws → Vals (kw2 vs zs) (kw2 us ws)
  | _, _, _, _, .nil, h => Vals.flip2 h
  | _, _, _, _, .cons _ _, _ => .nil
theorem pd_fnK2 {CX : CXT} {k : Nat} {fa : Addr} {fd : FuncData} {ps ks : List Str} {E : XK} {x : Str} {p pos : Pos} {kws : List Keyword} {F : List D → Option A} {g : DA} (G : FnOk X.prog X.w X.K X.mg X.base CX k fa fd ps (spD X.K F)) (hr : Room k X.A) (hg : Gl X x) (hm : X.mg x = some (.ref fa)) (hk : PySem.W.keepIn X.K (.ref fa) = true) (hb : KBinds X.K fd ps ks kw2 kw2) (hx : Passes CX X E)
    (hkw : PK X kws (tA X.K g)) (hall : (backToKw pos (keywordEach kws X.env)).all (·.1.isSome) = true := by rfl) (hks : (backToKw pos (keywordEach kws X.env)).filterMap (·.1) = ks := by rfl)
    (hdb : (x == ("__debug__" : Str)) = false := by decide) (hpl : ((backTo pos (starEach [] X.env)).any (·.1) || (backToKw pos (keywordEach kws X.env)).any (·.1.isNone)) = false := by rfl) :
    PE X (.Call (.Name x p) [] kws pos) (tE X.K (dFn F (dFlip g))) := PE.imp (pe_callK0 G hr hg hm hk hb hx hkw hall hks hdb hpl) fun σ H Q hh => by
  have := fn_run (E := E) hh
  unfold tCall at this
  simp only [List.append_nil] at this
  obtain ⟨T, sl, io, hR, b, io', e, q⟩ := this
  unfold dFlip at e
  simp only [Option.map_eq_some_iff, Prod.exists, Prod.mk.injEq] at e
  obtain ⟨as, io1, e1, rfl, rfl⟩ := e
  exact ⟨T, sl, io, hR, as, _, e1, fun vs H' s i v => q _ H' s i v.flip⟩

/-! ### statements -/
def dNext : DS := fun sl io => some (.nx sl io)
def dSeq (f g : DS) : DS := fun sl io => (f sl io).bind fun r => match r with
  | .nx sl' io' => g sl' io'
  | r => some r
theorem pds_nil : PSs X [] (tS X.K dNext) := PSs.imp pss_nil fun D σ H hh => by
  obtain ⟨T, sl, io, hR, r, e, q⟩ := hh
  cases e
  exact q T σ H hR (Fr.refl _ _)
theorem pds_cons {st : Stmt} {rest : List Stmt} {f g : DS} (h1 : PS X st (tS X.K f)) (h2 : PSs X rest (tS X.K g)) : PSs X (st :: rest) (tS X.K (dSeq f g)) := PSs.imp (pss_cons h1 h2) fun D σ H hh => by
  obtain ⟨T, sl, io, hR, r, e, q⟩ := hh
  unfold dSeq at e
  rw [Option.bind_eq_some_iff] at e
  obtain ⟨r1, e1, e2⟩ := e
  refine ⟨T, sl, io, hR, r1, e1, ?_⟩
  cases r1 with
  | nx sl' io' => exact fun T' σ' H' hr hf => ⟨T', sl', io', hr, r, e2, q.fr hf⟩
  | bk sl' io' => cases e2; exact q
  | ct sl' io' => cases e2; exact q
  | rt a io' => cases e2; exact q
theorem pds_one {st : Stmt} {f : DS} (h1 : PS X st (tS X.K f)) : PSs X [st] (tS X.K f) := PSs.imp (pss_one h1) fun _ _ _ hh => hh
def dIf (t : DT) (f g : DS) : DS := fun sl io => (t sl io).bind fun p => if p.1 then f sl p.2 else g sl p.2
theorem pds_if {c : Expr} {a b : List Stmt} {t : DT} {f g : DS} {pos : Pos} (hc : PT X c (tT X.K t)) (ha : PSs X a (tS X.K f)) (hb : PSs X b (tS X.K g)) : PS X (.If c a b pos) (tS X.K (dIf t f g)) := PS.imp (ps_if hc ha hb) fun D σ H hh => by
  obtain ⟨T, sl, io, hR, r, e, q⟩ := hh
  unfold dIf at e
  simp only [Option.bind_eq_some_iff, Prod.exists] at e
  obtain ⟨c, io1, e1, e2⟩ := e
  refine ⟨T, sl, io, hR, c, io1, e1, fun H1 s1 i1 => ?_⟩
  cases c with
  | true => exact ⟨T, sl, io1, hR.step s1 i1, r, e2, q.fr (Fr.of_stp s1)⟩
  | false => exact ⟨T, sl, io1, hR.step s1 i1, r, e2, q.fr (Fr.of_stp s1)⟩
def dRet (f : DE) : DS := fun sl io => (f sl io).map fun p => .rt p.1 p.2
theorem pds_ret {e : Expr} {pos : Pos} (he : PE X e (tE X.K f)) : PS X (.Return (some e) pos) (tS X.K (dRet f)) := PS.imp (ps_ret he) fun D σ H hh => by
  obtain ⟨T, sl, io, hR, r, e, q⟩ := hh
  unfold dRet at e
  simp only [Option.map_eq_some_iff, Prod.exists] at e
  obtain ⟨a, io1, e1, rfl⟩ := e
  exact one hR e1 fun x H1 s1 i1 v1 => q T x H1 i1 (Fr.of_stp s1) v1
def dRetN : DS := fun _ io => some (.rt (.dat .none) io)
theorem pds_retN {pos : Pos} : PS X (.Return none pos) (tS X.K dRetN) := PS.imp ps_retN fun D σ H hh => by
  obtain ⟨T, sl, io, hR, r, e, q⟩ := hh
  cases e
  exact q T .non H hR.io (Fr.refl _ _) .non
def dBreak : DS := fun sl io => some (.bk sl io)
def dCont : DS := fun sl io => some (.ct sl io)
def dStuck : DS := fun _ _ => none
theorem pds_break {pos : Pos} : PS X (.Break pos) (tS X.K dBreak) := PS.imp ps_break fun D σ H hh => by
  obtain ⟨T, sl, io, hR, r, e, q⟩ := hh
  cases e
  exact q T σ H hR (Fr.refl _ _)
theorem pds_cont {pos : Pos} : PS X (.Continue pos) (tS X.K dCont) := PS.imp ps_continue fun D σ H hh => by
  obtain ⟨T, sl, io, hR, r, e, q⟩ := hh
  cases e
  exact q T σ H hR (Fr.refl _ _)
theorem pds_pass {pos : Pos} : PS X (.Pass pos) (tS X.K dNext) := PS.imp ps_pass fun D σ H hh => by
  obtain ⟨T, sl, io, hR, r, e, q⟩ := hh
  cases e
  exact q T σ H hR (Fr.refl _ _)
theorem pds_stuck {st : Stmt} : PS X st (tS X.K dStuck) := PS.imp ps_never fun D σ H hh => by
  obtain ⟨T, sl, io, hR, r, e, q⟩ := hh
  cases e
/-- f(..) alone -/
def dDrop (f : DE) : DS := fun sl io => (f sl io).map fun p => .nx sl p.2
theorem pds_drop {e : Expr} {pos : Pos} (he : PE X e (tE X.K f)) (hs : swapsWith e none pos.line X.env = pure false := by rfl) : PS X (.Expr e pos) (tS X.K (dDrop f)) := PS.imp (ps_expr he hs) fun D σ H hh => by
  obtain ⟨T, sl, io, hR, r, e, q⟩ := hh
  unfold dDrop at e
  simp only [Option.map_eq_some_iff, Prod.exists] at e
  obtain ⟨a, io1, e1, rfl⟩ := e
  exact one hR e1 fun x H1 s1 i1 v1 => q T σ H1 (hR.step s1 i1) (Fr.of_stp s1)
/-! x = e -/
def slotOf : A → S
  | .dat d => .dat d
  | .tmp ds => .dat (.list ds)
  | .ref k => .ref k
theorem Rel.set {K : PySem.W.Frag} {T : List Addr} {σ : L2.St} {sl : List S} {io : IO} {H : Hp} (h : Rel K T σ sl io H) (i : Nat) {v : V} {s : S} (hs : SOk K T H (some (some v)) s) : Rel K T (σ.set i (some v)) (sl.set i s) io H := by
  refine ⟨by rw [List.length_set, List.length_set]; exact h.len, fun j sj e => ?_, h.io⟩
  by_cases hj : i = j
  · subst hj
    have hl : i < (sl.set i s).length := (List.getElem?_eq_some_iff.mp e).1
    rw [List.length_set] at hl
    rw [List.getElem?_set_self hl] at e
    cases e
    rw [List.getElem?_set_self (by rw [h.len]; exact hl)]
    exact hs
  · rw [List.getElem?_set_ne hj] at e
    rw [List.getElem?_set_ne hj]
    exact h.slot j sj e
theorem slotOf_ok {K : PySem.W.Frag} {T : List Addr} {H H' : Hp} {v : V} {a : A} (h : VOk K T H H' v a) : SOk K T H' (some (some v)) (slotOf a) := by
  cases a with
  | dat d => exact ⟨v, rfl, h⟩
  | tmp ds => obtain ⟨p, xs, rfl, n, nt, hp, hd⟩ := h; exact ⟨_, rfl, .lst (by rw [out_not nt]; exact hp) hd⟩
  | ref k => obtain ⟨p, ep, rfl⟩ := h; exact ⟨p, ep, rfl⟩
def dSet (i : Nat) (f : DE) : DS := fun sl io => (f sl io).map fun p => .nx (sl.set i (slotOf p.1)) p.2
theorem set_run {i : Nat} {D : Ends} {σ : L2.St} {H : Hp} (hh : tS X.K (dSet i f) D σ H) : tAsg (tE X.K f) (gName i) D σ H := by
  obtain ⟨T, sl, io, hR, r, e, q⟩ := hh
  unfold dSet at e
  simp only [Option.map_eq_some_iff, Prod.exists] at e
  obtain ⟨a, io1, e1, rfl⟩ := e
  exact one hR e1 fun x H1 s1 i1 v1 => q T _ H1 ((hR.step s1 i1).set i (slotOf_ok v1)) (Fr.of_stp s1)
/-- x = a new list, which x may change -/
def dOwn (i : Nat) (f : DE) : DS := fun sl io => (f sl io).bind fun p => match p.1 with
  | .tmp ds => if imAll ds = true then some (.nx (sl.set i (.ref p.2.length)) (p.2 ++ [ds])) else none
  | a => some (.nx (sl.set i (slotOf a)) p.2)
theorem Rel.grow {K : PySem.W.Frag} {T : List Addr} {σ : L2.St} {sl : List S} {io io1 : IO} {H H1 : Hp} {p : Addr} {xs : List V} {ds : List D} (hR : Rel K T σ sl io H) (s1 : Stp T H H1) (i1 : IoOk K T io1 H1) (n : H p = none) (nt : p ∉ T) (hp : H1 p = some (.lst xs)) (hd : DdAll K (out T H1) xs ds) (hi : imAll ds = true) :
    Rel K (T ++ [p]) σ sl (io1 ++ [ds]) H1 ∧ Fr T H (T ++ [p]) H1 := by
  have tl : TL (T ++ [p]) H1 := fun b hb => by
    rcases List.mem_append.mp hb with z | z
    · exact i1.tl b z
    · rw [List.mem_singleton.mp z]; exact ⟨xs, hp⟩
  have ext : Ex (out T H) (out (T ++ [p]) H1) := fun b o e => by
    obtain ⟨nb, e'⟩ := out_some e
    have : b ∉ T ++ [p] := fun z => by
      rcases List.mem_append.mp z with z | z
      · exact nb z
      · rw [List.mem_singleton.mp z] at e'; rw [n] at e'; cases e'
    rw [out_not this]; exact s1.keep b o nb e'
  refine ⟨⟨hR.len, fun j sj e => ?_, ⟨?_, ?_, fun k q hq => ?_⟩⟩, ⟨⟨[p], rfl⟩, fun b hb => ?_, s1.keep, s1.there⟩⟩
  · have h := hR.slot j sj e
    cases sj with
    | un => trivial
    | dat d => obtain ⟨v, e1, h1⟩ := h; exact ⟨v, e1, h1.mono ext⟩
    | ref k =>
      obtain ⟨p', e1, h1⟩ := h
      exact ⟨p', by rw [List.getElem?_append_left (List.getElem?_eq_some_iff.mp e1).1]; exact e1, h1⟩
    | scr ns => obtain ⟨a, e1, h1⟩ := h; exact ⟨a, e1, Evl.ex_l ext h1⟩
  · rw [List.nodup_append]
    exact ⟨i1.nd, by simp, fun a ha b hb => by rw [List.mem_singleton.mp hb]; exact fun z => nt (z ▸ ha)⟩
  · rw [List.length_append, List.length_append, i1.len]; rfl
  · by_cases hk : k < T.length
    · rw [List.getElem?_append_left hk] at hq
      obtain ⟨es, ys, e1, e2, e3, e4⟩ := i1.at_ k q hq
      exact ⟨es, ys, by rw [List.getElem?_append_left (by rw [← i1.len]; exact hk)]; exact e1, e2, (e3.mono out_ex).imOut tl e4, e4⟩
    · have hl := (List.getElem?_eq_some_iff.mp hq).1
      rw [List.length_append, List.length_singleton] at hl
      have hk' : k = T.length := by omega
      subst hk'
      rw [List.getElem?_append_right (Nat.le_refl _), Nat.sub_self] at hq
      cases hq
      exact ⟨ds, xs, by rw [i1.len, List.getElem?_append_right (Nat.le_refl _), Nat.sub_self]; rfl, hp, (hd.mono out_ex).imOut tl hi, hi⟩
  · rcases List.mem_append.mp hb with z | z
    · exact .inl z
    · rw [List.mem_singleton.mp z]; exact .inr n
theorem own_run {i : Nat} {D : Ends} {σ : L2.St} {H : Hp} (hh : tS X.K (dOwn i f) D σ H) : tAsg (tE X.K f) (gName i) D σ H := by
  obtain ⟨T, sl, io, hR, r, e, q⟩ := hh
  unfold dOwn at e
  simp only [Option.bind_eq_some_iff, Prod.exists] at e
  obtain ⟨a, io1, e1, e2⟩ := e
  split at e2
  · rename_i ds
    split at e2
    · rename_i hi
      cases e2
      refine one hR e1 fun x H1 s1 i1 v1 => ?_
      obtain ⟨p, xs, rfl, n, nt, hp, hd⟩ := v1
      obtain ⟨hR2, hf⟩ := hR.grow s1 i1 n nt hp hd hi
      exact q _ _ H1 (hR2.set i ⟨p, by rw [← i1.len, List.getElem?_append_right (Nat.le_refl _), Nat.sub_self]; rfl, rfl⟩) hf
    · cases e2
  · cases e2
    exact one hR e1 fun x H1 s1 i1 v1 => q T _ H1 ((hR.step s1 i1).set i (slotOf_ok v1)) (Fr.of_stp s1)
theorem pds_set {i : Nat} {st : Stmt} (h : PS X st (tAsg (tE X.K f) (gName i))) : PS X st (tS X.K (dSet i f)) := PS.imp h fun _ _ _ hh => set_run hh
theorem pds_own {i : Nat} {st : Stmt} (h : PS X st (tAsg (tE X.K f) (gName i))) : PS X st (tS X.K (dOwn i f)) := PS.imp h fun _ _ _ hh => own_run hh
/-! a, b = e -/
def gNm : List Nat → TGs
  | [] => gNil
  | i :: r => gCons (gName i) (gNm r)
def setAll : List Nat → List D → List S → List S
  | i :: r, d :: ds, sl => setAll r ds (sl.set i (.dat d))
  | _, _, sl => sl
theorem gNm_run {K : PySem.W.Frag} {T : List Addr} {io : IO} {H : Hp} {Q : L2.St → Hp → Prop} : ∀ (is : List Nat) (vs : List V) (ds : List D) (σ : L2.St) (sl : List S), Rel K T σ sl io H → DdAll K (out T H) vs ds → is.length = ds.length → (∀ σ', Rel K T σ' (setAll is ds sl) io H → Q σ' H) → gNm is vs σ H Q
  | [], _, [], σ, sl, hR, .nil, _, q => ⟨rfl, q σ hR⟩
  | i :: is, _, d :: ds, σ, sl, hR, .cons h t, e, q => ⟨_, _, rfl, gNm_run is _ ds _ _ (hR.set i (s := .dat d) ⟨_, rfl, h⟩) t (by simpa using e) q⟩
  | [], _, _ :: _, _, _, _, _, e, _ => by simp at e
  | _ :: _, _, [], _, _, _, _, e, _ => by simp at e
/-- a target: a name, or names in a tuple -/
inductive Tg where
  | one (i : Nat)
  | many (is : List Nat)
def tgGo : Tg → D → List S → Option (List S)
  | .one i, d, sl => some (sl.set i (.dat d))
  | .many is, .tuple ds, sl => if is.length = ds.length then some (setAll is ds sl) else none
  | _, _, _ => none
def gTg (K : PySem.W.Frag) : Tg → TG
  | .one i => gName i
  | .many is => gTup K is.length (gNm is)
theorem tg_run {K : PySem.W.Frag} {T : List Addr} {io : IO} {H : Hp} {Q : L2.St → Hp → Prop} {tg : Tg} {v : V} {d : D} {σ : L2.St} {sl sl' : List S} (hR : Rel K T σ sl io H) (hd : Dd K (out T H) v d) (e : tgGo tg d sl = some sl') (q : ∀ σ', Rel K T σ' sl' io H → Q σ' H) : gTg K tg v σ H Q := by
  cases tg with
  | one i =>
    cases e
    exact q _ (hR.set i ⟨v, rfl, hd⟩)
  | many is =>
    cases d with
    | tuple ds =>
      simp only [tgGo] at e
      split at e
      · rename_i hl
        cases e
        cases hd with
        | tup h1 h2 => exact ⟨_, _, rfl, Evl.ex_t out_ex h1, by rw [h2.length]; exact hl.symm, gNm_run is _ ds σ sl hR h2 hl q⟩
      · cases e
    | _ => cases e
def dUnp (tg : Tg) (f : DE) : DS := fun sl io => (f sl io).bind fun p => (vwI p.1).bind fun d => (tgGo tg d sl).map fun sl' => .nx sl' p.2
theorem pds_unp {tg e : Expr} {t : Tg} {pos : Pos} (he : PE X e (tE X.K f)) (hg : PG X tg (gTg X.K t)) (hs : swapsWithSole [tg] e pos.line X.env = pure false := by rfl) (hw : swappedStores [tg] e X.env = pure none := by rfl)
    (h1 : (assignEach [tg] X.env).map (·.2) = [assign tg X.env] := by rfl) : PS X (.Assign [tg] e pos) (tS X.K (dUnp t f)) := PS.imp (ps_asg he hg hs hw h1) fun D σ H hh => by
  obtain ⟨T, sl, io, hR, r, e, q⟩ := hh
  unfold dUnp at e
  simp only [Option.bind_eq_some_iff, Option.map_eq_some_iff, Prod.exists] at e
  obtain ⟨a, io1, e1, d, e2, sl', e3, rfl⟩ := e
  refine one hR e1 fun x H1 s1 i1 v1 => ?_
  exact tg_run (hR.step s1 i1) (vwI_ok v1 e2) e3 fun σ' hr => q T σ' H1 hr (Fr.of_stp s1)
/-! x.append(e), x[i] = e -/
theorem Rel.chg {K : PySem.W.Frag} {T : List Addr} {σ : L2.St} {sl : List S} {io : IO} {H : Hp} {k : Nat} {p : Addr} {js : List D} {xs : List V} (hR : Rel K T σ sl io H) (hp : T[k]? = some p) (h0 : H p ≠ none) (hd : DdAll K (out T H) xs js) (hi : imAll js = true) :
    Rel K T σ sl (io.set k js) (upd H p (.lst xs)) ∧ Stp T H (upd H p (.lst xs)) := by
  have hm : p ∈ T := List.mem_iff_getElem?.mpr ⟨k, hp⟩
  obtain ⟨i2, s2⟩ := hR.io.chg (H' := upd H p (.lst xs)) (xs := xs) (js := js) hp (fun b o n e => by rw [upd_ne n]; exact e) upd_same (hd.mono (fun b o e => by
    obtain ⟨nb, e'⟩ := out_some e
    rw [upd_ne (fun z => nb (by rw [z]; exact hm))]; exact e')) hi
  exact ⟨hR.step s2 i2, s2⟩
theorem imAll_append : ∀ {a b : List D}, imAll (a ++ b) = (imAll a && imAll b)
  | [], b => by simp [imAll]
  | x :: a, b => by simp [imAll, imAll_append (a := a) (b := b), Bool.and_assoc]
def dApp (i : Nat) (f : DE) : DS := fun sl io => match sl[i]? with
  | some (.ref k) => (f sl io).bind fun p => match p.1 with
    | .dat d => (p.2[k]?).bind fun js => if im d = true ∧ js.length < LIM then some (.nx sl (p.2.set k (js ++ [d]))) else none
    | _ => none
  | _ => none
theorem imAll_set : ∀ {a : List D} {i : Nat} {d : D}, imAll a = true → im d = true → imAll (a.set i d) = true
  | [], _, _, h, _ => h
  | x :: a, 0, d, h, h2 => by
    rw [imAll, Bool.and_eq_true] at h
    show imAll (d :: a) = true
    rw [imAll, h2, h.2]; rfl
  | x :: a, i + 1, d, h, h2 => by
    rw [imAll, Bool.and_eq_true] at h
    show imAll (x :: a.set i d) = true
    rw [imAll, h.1, imAll_set h.2 h2]; rfl
theorem pds_app {i : Nat} {o e : Expr} {apos cpos pos : Pos} (ho : PE X o (tVar i)) (he : PE X e (tE X.K f))
    (hbase : attributeBase o "append" X.env (eval o X.env) = eval o X.env := by rfl)
    (hfew : ((backTo cpos (starEach [e] X.env)).all (fun x => !x.1) && (backToKw cpos (keywordEach [] X.env)).all (fun x => x.1.isSome)
      && decide (([e] : List Expr).length + ([] : List Keyword).length + (if ([] : List Keyword).isEmpty then 0 else 1) < 30)) = true := by rfl)
    (hline : (apos.endLine == cpos.line) = true := by rfl) (hs : starEach [e] X.env = (false, eval e X.env) :: starEach [] X.env := by rfl) (hplain : (backTo cpos (starEach [] X.env)).any (·.1) = false := by rfl)
    (hsw : swapsWith (.Call (.Attribute o "append" apos) [e] [] cpos) none pos.line X.env = pure false := by rfl) :
    PS X (.Expr (.Call (.Attribute o "append" apos) [e] [] cpos) pos) (tS X.K (dApp i f)) := by
  refine PS.imp (ps_expr (pe_bm PySem.F.plainAttrs_list PySem.F.slot_list_append PySem.F.type_list_append mt_append ho (pa_cons he pa_nil hs) hbase hfew hline hs hplain) hsw) fun D σ H hh => ?_
  obtain ⟨T, sl, io, hR, r, e, q⟩ := hh
  unfold dApp at e
  split at e
  · rename_i k hs
    obtain ⟨p, ep, ev⟩ := hR.slot i _ hs
    obtain ⟨js0, xs0, q1, q2, q3, q4⟩ := hR.io.at_ k p ep
    simp only [Option.bind_eq_some_iff, Prod.exists] at e
    obtain ⟨a, io1, e1, e2⟩ := e
    split at e2
    · rename_i d
      simp only [Option.bind_eq_some_iff] at e2
      obtain ⟨js, e3, e4⟩ := e2
      split at e4
      · rename_i hc
        cases e4
        refine ⟨_, ev, .inl ⟨rfl, xs0, SqL.of q2⟩, ?_⟩
        refine one hR e1 fun x H1 s1 i1 v1 => ?_
        obtain ⟨js1, xs1, w1, w2, w3, w4⟩ := i1.at_ k p ep
        rw [e3] at w1; cases w1
        have hR1 := hR.step s1 i1
        obtain ⟨hR2, s2⟩ := hR1.chg (xs := xs1 ++ [x]) (js := js ++ [d]) ep (by rw [w2]; exact fun z => nomatch z) (w3.append (.cons v1 .nil)) (by rw [imAll_append, w4]; simp [imAll, hc.1])
        refine ⟨p, xs1, x, rfl, rfl, w2, ?_, q T σ _ hR2 (Fr.of_stp (s1.trans s2))⟩
        rw [w3.length]
        have := hc.2
        unfold LIM at this
        rw [sizeLine_eq]; omega
      · cases e4
    · cases e2
  · cases e
def dPut (fo fi fv : DE) : DS := fun sl io => (fv sl io).bind fun p => (fo sl p.2).bind fun q => (fi sl q.2).bind fun z => match p.1, q.1, z.1 with
  | .dat d, .ref k, .dat (.int i) => (z.2[k]?).bind fun js => (ixN js.length i).bind fun j => if im d = true then some (.nx sl (z.2.set k (js.set j d))) else none
  | _, _, _ => none
theorem pds_put {o i e : Expr} {fo fi fv : DE} {pos spos : Pos} (ho : PE X o (tE X.K fo)) (hi : PE X i (tE X.K fi)) (he : PE X e (tE X.K fv))
    (ha : ∀ v, assign (.Subscript o i pos) X.env v = (do
      let ov ← holding [v] (eval o X.env)
      let iv ← holding [v, ov] (eval i X.env)
      standAt pos
      holding [v, ov, iv] (setItem ov iv v)
      release [v, ov, iv] []) := by intro _; rfl)
    (hs : swapsWithSole [.Subscript o i pos] e spos.line X.env = pure false := by rfl) (hw : swappedStores [.Subscript o i pos] e X.env = pure none := by rfl)
    (h1 : (assignEach [.Subscript o i pos] X.env).map (·.2) = [assign (.Subscript o i pos) X.env] := by rfl) : PS X (.Assign [.Subscript o i pos] e spos) (tS X.K (dPut fo fi fv)) := by
  refine PS.imp (ps_asg he (pg_sub ho hi set_list ha) hs hw h1) fun D σ H hh => ?_
  obtain ⟨T, sl, io, hR, r, e, q⟩ := hh
  unfold dPut at e
  simp only [Option.bind_eq_some_iff, Prod.exists] at e
  obtain ⟨a, io1, e1, b, io2, e2, c, io3, e3, e4⟩ := e
  split at e4
  · rename_i d k ii
    simp only [Option.bind_eq_some_iff] at e4
    obtain ⟨js, e5, j, e6, e7⟩ := e4
    split at e7
    · rename_i hd
      cases e7
      refine one hR e1 fun x H1 s1 i1 v1 => ?_
      refine one (hR.step s1 i1) e2 fun y H2 s2 i2 v2 => ?_
      refine one (hR.step (s1.trans s2) i2) e3 fun z H3 s3 i3 v3 => ?_
      obtain ⟨p, ep, rfl⟩ := v2
      have v3' := VwOk.int (.inl v3)
      subst v3'
      obtain ⟨js1, xs1, w1, w2, w3, w4⟩ := i3.at_ k p ep
      rw [e5] at w1; cases w1
      have v1' : Dd X.K (out T H3) x d := Dd.mono (s2.trans s3).out v1
      have s0 := (s1.trans s2).trans s3
      obtain ⟨hR2, s4⟩ := (hR.step s0 i3).chg (xs := xs1.set j x) (js := js.set j d) ep (by rw [w2]; exact fun z => nomatch z) (w3.set v1' j) (imAll_set w4 hd)
      refine ⟨p, xs1, _, j, rfl, rfl, w2, by rw [ixN_len w3.length]; exact e6, q T σ _ hR2 (Fr.of_stp (s0.trans s4))⟩
    · cases e7
  · cases e4
/-! x op= e, of ints -/
def dAugI (i : Nat) (o : Int → Int → Option Int) (f : DE) : DS := fun sl io => match sl[i]? with
  | some (.dat (.int a)) => (f sl io).bind fun p => match p.1 with
    | .dat (.int b) => (o a b).map fun c => .nx (sl.set i (.dat (.int c))) p.2
    | _ => none
  | _ => none
def ipO (o : Int → Int → Option Int) : TIp := fun x y H Q => ∃ i j k, x = .int i ∧ y = .int j ∧ o i j = some k ∧ Q (.int k) H
theorem pds_augI {i : Nat} {st : Stmt} {o : Int → Int → Option Int} (h : PS X st (tAug i (tE X.K f) (ipO o))) : PS X st (tS X.K (dAugI i o f)) := PS.imp h fun D σ H hh => by
  obtain ⟨T, sl, io, hR, r, e, q⟩ := hh
  unfold dAugI at e
  split at e
  · rename_i a hs
    obtain ⟨v, ev, hv⟩ := hR.slot i _ hs
    cases hv
    simp only [Option.bind_eq_some_iff, Prod.exists] at e
    obtain ⟨b, io1, e1, e2⟩ := e
    split at e2
    · rename_i b'
      simp only [Option.map_eq_some_iff] at e2
      obtain ⟨c, e3, rfl⟩ := e2
      refine ⟨_, ev, one hR e1 fun x H1 s1 i1 v1 => ?_⟩
      have v1' := VwOk.int (.inl v1)
      subst v1'
      exact ⟨_, _, c, rfl, rfl, e3, q T _ H1 ((hR.step s1 i1).set i ⟨_, rfl, .int c⟩) (Fr.of_stp s1)⟩
    · cases e2
  · cases e
theorem ip_addO : PIp X .Add (ipO fun i j => some (i + j)) := by
  intro pins s σ H x y v u Q I r1 r2 ⟨i, j, k, e1, e2, e3, q⟩
  cases e3
  exact ip_add pins s σ H x y v u Q I r1 r2 ⟨i, j, e1, e2, q⟩
end
end DD
set_option Elab.async false
set_option linter.all false
set_option maxRecDepth 100000
set_option maxHeartbeats 2000000
namespace DD
open PySem PySem.Spec PyProof.Rows L2

mutual
def beqD : D → D → Bool
  | .none, .none => true
  | .bool a, .bool b => a == b
  | .int a, .int b => decide (a = b)
  | .str a, .str b => decide (a = b)
  | .list a, .list b => beqL a b
  | .tuple a, .tuple b => beqL a b
  | _, _ => false
def beqL : List D → List D → Bool
  | [], [] => true
  | x :: xs, y :: ys => beqD x y && beqL xs ys
  | _, _ => false
end
mutual
theorem beqD_eq : ∀ {a b : D}, beqD a b = true → a = b
  | .none, .none, _ => rfl
  | .bool a, .bool b, h => by simp [beqD] at h; rw [h]
  | .int a, .int b, h => by simp [beqD] at h; rw [h]
  | .str a, .str b, h => by simp [beqD] at h; rw [h]
  | .list a, .list b, h => by rw [beqL_eq (a := a) (b := b) (by simpa [beqD] using h)]
  | .tuple a, .tuple b, h => by rw [beqL_eq (a := a) (b := b) (by simpa [beqD] using h)]
  | .none, .bool _, h | .none, .int _, h | .none, .str _, h | .none, .list _, h | .none, .tuple _, h | .none, .dict _, h => by simp [beqD] at h
  | .bool _, .none, h | .bool _, .int _, h | .bool _, .str _, h | .bool _, .list _, h | .bool _, .tuple _, h | .bool _, .dict _, h => by simp [beqD] at h
  | .int _, .none, h | .int _, .bool _, h | .int _, .str _, h | .int _, .list _, h | .int _, .tuple _, h | .int _, .dict _, h => by simp [beqD] at h
  | .str _, .none, h | .str _, .bool _, h | .str _, .int _, h | .str _, .list _, h | .str _, .tuple _, h | .str _, .dict _, h => by simp [beqD] at h
  | .list _, .none, h | .list _, .bool _, h | .list _, .int _, h | .list _, .str _, h | .list _, .tuple _, h | .list _, .dict _, h => by simp [beqD] at h
  | .tuple _, .none, h | .tuple _, .bool _, h | .tuple _, .int _, h | .tuple _, .str _, h | .tuple _, .list _, h | .tuple _, .dict _, h => by simp [beqD] at h
  | .dict _, _, h => by simp [beqD] at h
theorem beqL_eq : ∀ {a b : List D}, beqL a b = true → a = b
  | [], [], _ => rfl
  | x :: xs, y :: ys, h => by
    rw [beqL, Bool.and_eq_true] at h
    rw [beqD_eq h.1, beqL_eq h.2]
  | [], _ :: _, h => by simp [beqL] at h
  | _ :: _, [], h => by simp [beqL] at h
end
mutual
theorem beqD_refl : ∀ {a : D}, im a = true → beqD a a = true
  | .none, _ => rfl
  | .bool a, _ => by simp [beqD]
  | .int a, _ => by simp [beqD]
  | .str a, _ => by simp [beqD]
  | .list a, h => by simp [im] at h
  | .tuple a, h => by rw [beqD]; exact beqL_refl (by simpa [im] using h)
  | .dict a, h => by simp [im] at h
theorem beqL_refl : ∀ {a : List D}, imAll a = true → beqL a a = true
  | [], _ => rfl
  | x :: xs, h => by
    rw [imAll, Bool.and_eq_true] at h
    rw [beqL, beqD_refl h.1, beqL_refl h.2]; rfl
end
/-- the list that is walked stands as it stood -/
abbrev Chk := Option (Nat × List D)
def chk : Chk → IO → Bool
  | none, _ => true
  | some (k, ds), io => match io[k]? with
    | some es => beqL es ds
    | none => false

/-! ### while -/
def whGo (t : DT) (body : DS) : Nat → DS
  | 0, _, _ => none
  | n + 1, sl, io => (t sl io).bind fun p => if p.1 then (body sl p.2).bind fun r => match r with
    | .nx sl2 io2 => whGo t body n sl2 io2
    | .ct sl2 io2 => whGo t body n sl2 io2
    | .bk sl2 io2 => some (.nx sl2 io2)
    | .rt a io2 => some (.rt a io2) else some (.nx sl p.2)
section
variable {X : Cx} {f g h : DE}
theorem pds_while {n : Nat} {c : Expr} {bd : List Stmt} {t : DT} {body : DS} {pos : Pos} (hp : PassesOwn (model X.prog X.w) X.A X.env X.xe) (hc : PT X c (tT X.K t)) (hb : PSs X bd (tS X.K body)) : PS X (.While c bd [] pos) (tS X.K (whGo t body n)) := PS.imp (ps_while hp hc hb) fun D σ H hh => by
  obtain ⟨T, sl, io, hR, r, e, q⟩ := hh
  refine ⟨fun m σ' H' => ∃ T' sl' io', Rel X.K T' σ' sl' io' H' ∧ Fr T H T' H' ∧ whGo t body m sl' io' = some r, ⟨n, T, sl, io, hR, Fr.refl _ _, e⟩, ?_⟩
  rintro m σ' H' ⟨T', sl', io', hR', hf, e'⟩
  cases m with
  | zero => cases e'
  | succ m =>
    unfold whGo at e'
    simp only [Option.bind_eq_some_iff, Prod.exists] at e'
    obtain ⟨b, io1, e1, e2⟩ := e'
    refine ⟨T', sl', io', hR', b, io1, e1, fun H1 s1 i1 => ?_⟩
    cases b with
    | false =>
      cases e2
      show D.nx σ' H1
      exact q T' σ' H1 (hR'.step s1 i1) (hf.trans (Fr.of_stp s1))
    | true =>
      simp only [if_true, Option.bind_eq_some_iff] at e2
      obtain ⟨r1, e3, e4⟩ := e2
      refine ⟨fun σ2 H2 => ∃ T' sl' io', Rel X.K T' σ2 sl' io' H2 ∧ Fr T H T' H2 ∧ whGo t body m sl' io' = some r, fun σ2 H2 hN => ⟨m, Nat.lt_succ_self m, hN⟩, ?_⟩
      refine ⟨T', sl', io1, hR'.step s1 i1, r1, e3, ?_⟩
      have hf1 := hf.trans (Fr.of_stp s1)
      cases r1 with
      | nx sl2 io2 => exact fun T2 σ2 H2 hr2 hf2 => ⟨T2, sl2, io2, hr2, hf1.trans hf2, e4⟩
      | ct sl2 io2 => exact fun T2 σ2 H2 hr2 hf2 => ⟨T2, sl2, io2, hr2, hf1.trans hf2, e4⟩
      | bk sl2 io2 =>
        cases e4
        exact fun T2 σ2 H2 hr2 hf2 => q T2 σ2 H2 hr2 (hf1.trans hf2)
      | rt a io2 =>
        cases e4
        exact (q.fr hf1 : RtOk X.K T' H1 D (.rt a io2))
end

/-! ### what is walked -/
theorem Fr.out {T T' : List Addr} {H H' : Hp} (f : Fr T H T' H') : Ex (out T H) (out T' H') := fun b o e => by
  obtain ⟨nb, e'⟩ := out_some e
  have : b ∉ T' := fun z => by
    rcases f.new b z with z | z
    · exact nb z
    · rw [z] at e'; cases e'
  rw [out_not this]; exact f.keep b o nb e'
structure Src (K : PySem.W.Frag) (T : List Addr) (H : Hp) (J : It) (items : List D) (c : Chk) : Prop where
  go : ∀ (T' : List Addr) (io' : IO) (H' : Hp) (i : Nat) (d : D), Fr T H T' H' → IoOk K T' io' H' → chk c io' = true → items[i]? = some d → J.go i H' ∧ ∀ x H'', J.yld i H' x H'' → Ex H' H'' ∧ Dd K (out T' H'') x d
  stop : ∀ (T' : List Addr) (io' : IO) (H' : Hp) (i : Nat), Fr T H T' H' → IoOk K T' io' H' → chk c io' = true → items.length ≤ i → J.stop i H'
theorem Src.list {K : PySem.W.Frag} {T : List Addr} {H : Hp} {a : Addr} {xs : List V} {ds : List D} (n : a ∉ T) (h : H a = some (.lst xs)) (hd : DdAll K (out T H) xs ds) : Src K T H (Itl K a) ds none := by
  have st : ∀ {T' : List Addr} {H' : Hp}, Fr T H T' H' → H' a = some (.lst xs) := fun f => f.keep a _ n h
  refine ⟨fun T' io' H' i d f i1 _ e => ?_, fun T' io' H' i f _ _ hl => ⟨xs, SqL.of (st f), by rw [hd.length]; exact hl⟩⟩
  obtain ⟨v, h1, h2⟩ := hd.get e
  refine ⟨⟨xs, v, SqL.of (st f), h1⟩, fun x H'' hy => ?_⟩
  obtain ⟨rfl, hx⟩ := hy
  have hx' := hx xs (SqL.of (st f))
  rw [h1] at hx'
  cases hx'
  exact ⟨Ex.refl _, h2.mono f.out⟩
theorem Src.tup {K : PySem.W.Frag} {T : List Addr} {H : Hp} {a : Addr} {xs : List V} {ds : List D} (h : SqT K (out T H) a xs) (hd : DdAll K (out T H) xs ds) : Src K T H (Itt K a) ds none := by
  have st : ∀ {T' : List Addr} {H' : Hp}, Fr T H T' H' → SqT K H' a xs := fun f => Evl.ex_t out_ex (Evl.ex_t f.out h)
  refine ⟨fun T' io' H' i d f i1 _ e => ?_, fun T' io' H' i f _ _ hl => ⟨xs, st f, by rw [hd.length]; exact hl⟩⟩
  obtain ⟨v, h1, h2⟩ := hd.get e
  refine ⟨⟨xs, v, st f, h1⟩, fun x H'' hy => ?_⟩
  obtain ⟨rfl, hx⟩ := hy
  have hx' := hx xs (st f)
  rw [h1] at hx'
  cases hx'
  exact ⟨Ex.refl _, h2.mono f.out⟩
theorem Src.own {K : PySem.W.Frag} {T : List Addr} {H : Hp} {k : Nat} {a : Addr} {ds : List D} (hk : T[k]? = some a) : Src K T H (Itl K a) ds (some (k, ds)) := by
  have st : ∀ {T' : List Addr} {H' : Hp} {io' : IO}, Fr T H T' H' → IoOk K T' io' H' → chk (some (k, ds)) io' = true → ∃ xs, H' a = some (.lst xs) ∧ DdAll K (out T' H') xs ds := fun {T' H' io'} f i c => by
    obtain ⟨n, e⟩ := f.pre
    have hk' : T'[k]? = some a := by rw [e, List.getElem?_append_left (List.getElem?_eq_some_iff.mp hk).1]; exact hk
    obtain ⟨es, xs, e1, e2, e3, _⟩ := i.at_ k a hk'
    simp only [chk, e1] at c
    rw [beqL_eq c] at e3
    exact ⟨xs, e2, e3⟩
  refine ⟨fun T' io' H' i d f i1 c e => ?_, fun T' io' H' i f i1 c hl => ?_⟩
  · obtain ⟨xs, s1, hd⟩ := st f i1 c
    obtain ⟨v, h1, h2⟩ := hd.get e
    refine ⟨⟨xs, v, SqL.of s1, h1⟩, fun x H'' hy => ?_⟩
    obtain ⟨rfl, hx⟩ := hy
    have hx' := hx xs (SqL.of s1)
    rw [h1] at hx'
    cases hx'
    exact ⟨Ex.refl _, h2⟩
  · obtain ⟨xs, s1, hd⟩ := st f i1 c
    exact ⟨xs, SqL.of s1, by rw [hd.length]; exact hl⟩
def strItems (s : Str) : List D := s.cps.toList.map fun c => .str ⟨#[c]⟩
theorem Src.str {K : PySem.W.Frag} {T : List Addr} {H : Hp} {s : Str} : Src K T H (Its s) (strItems s) none := by
  refine ⟨fun T' io' H' i d f i1 _ e => ?_, fun T' io' H' i f _ _ hl => ?_⟩
  · unfold strItems at e
    rw [List.getElem?_map, Option.map_eq_some_iff] at e
    obtain ⟨c, e1, rfl⟩ := e
    have e2 : s.cps[i]? = some c := by simpa using e1
    refine ⟨?_, fun x H'' hy => ?_⟩
    · exact (Array.getElem?_eq_some_iff.mp e2).1
    · obtain ⟨rfl, c', h1, rfl⟩ := hy
      rw [e2] at h1; cases h1
      exact ⟨Ex.refl _, .str _⟩
  · show s.cps.size ≤ i
    unfold strItems at hl
    simpa using hl
def rngItems (lo : Int) (n : Nat) : List D := (List.range n).map fun i => .int (lo + (i : Nat))
theorem rngItems_get {lo : Int} {n i : Nat} {d : D} (e : (rngItems lo n)[i]? = some d) : i < n ∧ d = .int (lo + (i : Nat)) := by
  unfold rngItems at e
  rw [List.getElem?_map, Option.map_eq_some_iff] at e
  obtain ⟨j, e1, rfl⟩ := e
  have h := List.getElem?_eq_some_iff.mp e1
  obtain ⟨h1, h2⟩ := h
  rw [List.length_range] at h1
  rw [List.getElem_range] at h2
  subst h2
  exact ⟨h1, rfl⟩
theorem rngItems_len (lo : Int) (n : Nat) : (rngItems lo n).length = n := by unfold rngItems; simp
theorem Src.rng {K : PySem.W.Frag} {T : List Addr} {H : Hp} {lo : Int} {n : Nat} : Src K T H (Itr lo n) (rngItems lo n) none := by
  refine ⟨fun T' io' H' i d f i1 _ e => ?_, fun T' io' H' i f _ _ hl => ?_⟩
  · obtain ⟨h1, rfl⟩ := rngItems_get e
    refine ⟨h1, fun x H'' hy => ?_⟩
    obtain ⟨rfl, rfl⟩ := hy
    exact ⟨Ex.refl _, .int _⟩
  · show n ≤ i
    rw [rngItems_len] at hl
    exact hl

/-- a walk's denotation: the items, and what is looked at between -/
abbrev DI := List S → IO → Option ((List D × Chk) × IO)
def tI (K : PySem.W.Frag) (f : DI) : TI := fun σ H R => ∃ T sl io, Rel K T σ sl io H ∧ ∃ items c io', f sl io = some ((items, c), io') ∧ ∀ J H', Stp T H H' → IoOk K T io' H' → Src K T H' J items c → R J H'
theorem PI.imp {X : Cx} {tg e : Expr} {t t' : TI} (h : PI X tg e t) (hi : ∀ σ H R, t' σ H R → t σ H R) : PI X tg e t' := ⟨fun pins s σ H R I q => h.run pins s σ H R I (hi σ H R q)⟩
def itemsOf (io : IO) : A → Option (List D × Chk)
  | .dat (.tuple ds) => some (ds, none)
  | .dat (.list ds) => some (ds, none)
  | .dat (.str s) => some (strItems s, none)
  | .tmp ds => some (ds, none)
  | .ref k => io[k]?.map fun ds => (ds, some (k, ds))
  | _ => none
def dItS (f : DE) : DI := fun sl io => (f sl io).bind fun p => (itemsOf p.2 p.1).map fun q => (q, p.2)
def iSeq (K : PySem.W.Frag) (tl : TE) : TI := fun σ H R => tl σ H fun x H1 =>
  (∃ a, x = .ref a ∧ (∃ xs, SqL K H1 a xs) ∧ R (Itl K a) H1) ∨ (∃ a, x = .ref a ∧ (∃ xs, SqT K H1 a xs) ∧ R (Itt K a) H1) ∨ ∃ z, x = .str z ∧ R (Its z) H1
section
variable {X : Cx} {tg : Expr} {f g h : DE}
theorem pi_seqA {l : Expr} {tl : TE} (hl : PE X l tl) : PI X tg l (iSeq X.K tl) :=
  ⟨fun pins s σ H R I h => thn (hl.run pins s σ H _ I h) fun v s1 hv => by
    obtain ⟨x, H1, I1, r1, q1⟩ := hv
    rcases q1 with ⟨a, rfl, ⟨xs, hq⟩, q⟩ | ⟨a, rfl, ⟨xs, hq⟩, q⟩ | ⟨z, rfl, q⟩
    · cases r1
      obtain ⟨its, rv, pl, hz⟩ := I1.list hq
      exact wpAny_pyIter_list pl.isList (pi_one (tk := s1.toks) I1 _ (turn_list a _) ⟨_, Heap.get?_push_size _ rfl, rfl, rfl⟩ q)
    · cases r1
      obtain ⟨its, rv, pl, hz⟩ := I1.tuple hq
      exact wpAny_pyIter_tuple pl (pi_one (tk := s1.toks) I1 _ (turn_tuple a _) ⟨_, Heap.get?_push_size _ rfl, rfl, rfl⟩ q)
    · obtain ⟨t, rfl⟩ := r1
      by_cases ha : z.cps.all (· < 128) = true
      · exact wpAny_pyIter_ascii ha (pi_one (tk := s1.toks) I1 _ (turn_str _ z t _ (.inl rfl)) ⟨_, Heap.get?_push_size _ rfl, rfl, rfl⟩ q)
      · exact wpAny_pyIter_wide (Bool.eq_false_iff.mpr ha) (pi_one (tk := s1.toks) I1 _ (turn_str _ z t _ (.inr rfl)) ⟨_, Heap.get?_push_size _ rfl, rfl, rfl⟩ q)⟩
theorem pdi_seq {l : Expr} (hl : PE X l (tE X.K f)) : PI X tg l (tI X.K (dItS f)) := PI.imp (pi_seqA hl) fun σ H R hh => by
  obtain ⟨T, sl, io, hR, items, c, io', e, q⟩ := hh
  unfold dItS at e
  simp only [Option.bind_eq_some_iff, Option.map_eq_some_iff, Prod.exists, Prod.mk.injEq] at e
  obtain ⟨a, io1, e1, q1, q2, e2, ⟨rfl, rfl⟩, rfl⟩ := e
  refine one hR e1 fun x H1 s1 i1 v1 => ?_
  unfold itemsOf at e2
  split at e2
  · cases e2
    obtain ⟨p, xs, rfl, h1, h2⟩ := VwOk.tup (.inl v1)
    exact .inr (.inl ⟨p, rfl, ⟨xs, Evl.ex_t out_ex h1⟩, q _ H1 s1 i1 (Src.tup h1 h2)⟩)
  · cases e2
    have v1' : Dd X.K (out T H1) x (.list _) := v1
    cases v1' with
    | lst h1 h2 =>
      obtain ⟨n1, h1'⟩ := out_some h1
      exact .inl ⟨_, rfl, ⟨_, SqL.of h1'⟩, q _ H1 s1 i1 (Src.list n1 h1' h2)⟩
  · cases e2
    have v1' := VwOk.str (.inl v1)
    subst v1'
    exact .inr (.inr ⟨_, rfl, q _ H1 s1 i1 Src.str⟩)
  · cases e2
    obtain ⟨p, xs, rfl, n, nt, hp, hd⟩ := v1
    exact .inl ⟨p, rfl, ⟨xs, SqL.of hp⟩, q _ H1 s1 i1 (Src.list nt hp hd)⟩
  · simp only [Option.map_eq_some_iff, Prod.mk.injEq] at e2
    obtain ⟨ds, e3, rfl, rfl⟩ := e2
    obtain ⟨p, ep, rfl⟩ := v1
    obtain ⟨es, xs, w1, w2, w3, _⟩ := i1.at_ _ p ep
    exact .inl ⟨p, rfl, ⟨xs, SqL.of w2⟩, q _ H1 s1 i1 (Src.own ep)⟩
  · cases e2
/-- an end of a range -/
def fitB : Int → Bool
  | .ofNat n => Nat.ble n 1000000
  | .negSucc n => Nat.ble n 1000000
theorem fitB_iff {i : Int} : fitB i = true ↔ -1000001 ≤ i ∧ i ≤ 1000000 := by
  cases i with
  | ofNat n =>
    show Nat.ble n 1000000 = true ↔ _
    rw [Nat.ble_eq, Int.ofNat_eq_natCast]
    omega
  | negSucc n =>
    show Nat.ble n 1000000 = true ↔ _
    rw [Nat.ble_eq]
    omega
theorem fitB_62 {i : Int} (h : fitB i = true) : -(2 ^ 62) ≤ i ∧ i < 2 ^ 62 := by
  have := fitB_iff.mp h
  omega
theorem fitB_nat {n : Nat} (h : n ≤ 1000000) : fitB (n : Int) = true := fitB_iff.mpr (by omega)
def dItR1 (g : DA) : DI := fun sl io => (g sl io).bind fun p => match p.1 with
  | [.dat (.int j)] => if fitB j = true then some ((rngItems 0 j.toNat, none), p.2) else none
  | _ => none
def dItR2 (g : DA) : DI := fun sl io => (g sl io).bind fun p => match p.1 with
  | [.dat (.int i), .dat (.int j)] => if fitB i = true ∧ fitB j = true then some ((rngItems i (j - i).toNat, none), p.2) else none
  | _ => none
theorem pdi_rng1 {a : Expr} {g : DA} {p pos : Pos} (hg : Gl X "range") (hm : X.mg "range" = none) (ha : PA X [a] (tA X.K g)) (hs : starEach [a] X.env = [(false, eval a X.env)] := by rfl) : PI X tg (.Call (.Name "range" p) [a] [] pos) (tI X.K (dItR1 g)) := PI.imp (pi_range1 hg hm ha hs) fun σ H R hh => by
  obtain ⟨T, sl, io, hR, items, c, io', e, q⟩ := hh
  unfold dItR1 at e
  simp only [Option.bind_eq_some_iff, Prod.exists] at e
  obtain ⟨as, io1, e1, e2⟩ := e
  split at e2
  · rename_i j
    split at e2
    · rename_i hc
      cases e2
      refine ⟨T, sl, io, hR, _, _, e1, fun vs H1 s1 i1 v1 => ?_⟩
      cases v1 with
      | cons h1 t1 =>
        cases t1
        have h1' := VwOk.int (.inl h1)
        subst h1'
        exact ⟨j, rfl, (fitB_62 hc).1, (fitB_62 hc).2, q _ H1 s1 i1 Src.rng⟩
    · cases e2
  · cases e2
theorem pdi_rng2 {a b : Expr} {g : DA} {p pos : Pos} (hg : Gl X "range") (hm : X.mg "range" = none) (ha : PA X [a, b] (tA X.K g)) (hs : starEach [a, b] X.env = [(false, eval a X.env), (false, eval b X.env)] := by rfl) (hs2 : starEach [b] X.env = [(false, eval b X.env)] := by rfl) : PI X tg (.Call (.Name "range" p) [a, b] [] pos) (tI X.K (dItR2 g)) := PI.imp (pi_range2 hg hm ha hs hs2) fun σ H R hh => by
  obtain ⟨T, sl, io, hR, items, c, io', e, q⟩ := hh
  unfold dItR2 at e
  simp only [Option.bind_eq_some_iff, Prod.exists] at e
  obtain ⟨as, io1, e1, e2⟩ := e
  split at e2
  · rename_i i j
    split at e2
    · rename_i hc
      cases e2
      refine ⟨T, sl, io, hR, _, _, e1, fun vs H1 s1 i1 v1 => ?_⟩
      cases v1 with
      | cons h1 t1 =>
        cases t1 with
        | cons h2 t2 =>
          cases t2
          have h1' := VwOk.int (.inl h1)
          have h2' := VwOk.int (.inl h2)
          subst h1' h2'
          exact ⟨i, j, rfl, ⟨(fitB_62 hc.1).1, (fitB_62 hc.1).2, (fitB_62 hc.2).1, (fitB_62 hc.2).2⟩, q _ H1 s1 i1 Src.rng⟩
    · cases e2
  · cases e2
end

/-! ### for -/
def forGo (c : Chk) (tg : Tg) (body : DS) : List D → DS
  | [], sl, io => if chk c io = true then some (.nx sl io) else none
  | d :: r, sl, io => if chk c io = true then (tgGo tg d sl).bind fun sl1 => (body sl1 io).bind fun x => match x with
    | .nx sl2 io2 => forGo c tg body r sl2 io2
    | .ct sl2 io2 => forGo c tg body r sl2 io2
    | .bk sl2 io2 => some (.nx sl2 io2)
    | .rt a io2 => some (.rt a io2) else none
def dFor (it : DI) (tg : Tg) (body : DS) : DS := fun sl io => (it sl io).bind fun p => forGo p.1.2 tg body p.1.1 sl p.2
section
variable {X : Cx} {f g h : DE}
theorem Rel.ex {K : PySem.W.Frag} {T : List Addr} {σ : L2.St} {sl : List S} {io : IO} {H H' : Hp} (h : Rel K T σ sl io H) (e : Ex H H') : Rel K T σ sl io H' := h.step (Stp.of_ex e) (h.io.ex e)
theorem pds_for {iter tgt : Expr} {bd : List Stmt} {it : DI} {tg : Tg} {body : DS} {pos : Pos} (hp : PassesOwn (model X.prog X.w) X.A X.env X.xe) (hc : X.calm = true) (hi : PI X tgt iter (tI X.K it)) (hg : PG X tgt (gTg X.K tg)) (hb : PSs X bd (tS X.K body))
    (hs : ∀ x, foldedSetIterable iter X.env x = pure x := by intro _; rfl) : PS X (.For tgt iter bd [] pos) (tS X.K (dFor it tg body)) := PS.imp (ps_for hp hc hi hg hb hs) fun D σ H hh => by
  obtain ⟨T, sl, io, hR, r, e, q⟩ := hh
  unfold dFor at e
  rw [Option.bind_eq_some_iff] at e
  obtain ⟨⟨⟨items, c⟩, io1⟩, e1, e2⟩ := e
  refine ⟨T, sl, io, hR, items, c, io1, e1, fun J H1 s1 i1 src => ?_⟩
  have hR1 := hR.step s1 i1
  have q1 := q.fr (Fr.of_stp s1)
  refine ⟨fun i m σ' H' => i + m = items.length ∧ ∃ T' sl' io', Rel X.K T' σ' sl' io' H' ∧ Fr T H1 T' H' ∧ forGo c tg body (items.drop i) sl' io' = some r, ⟨items.length, by omega, T, sl, io1, hR1, Fr.refl _ _, e2⟩, ?_⟩
  rintro i m σ' H' ⟨em, T', sl', io', hR', hf, e'⟩
  by_cases hlt : i < items.length
  · have hdr : items.drop i = items[i] :: items.drop (i + 1) := List.drop_eq_getElem_cons hlt
    rw [hdr] at e'
    unfold forGo at e'
    split at e'
    · rename_i hck
      simp only [Option.bind_eq_some_iff] at e'
      obtain ⟨sl1, e3, x, e4, e5⟩ := e'
      obtain ⟨g1, g2⟩ := src.go T' io' H' i items[i] hf hR'.io hck (List.getElem?_eq_getElem hlt)
      refine .inr ⟨g1, fun σ2 H2 => ∃ T' sl' io', Rel X.K T' σ2 sl' io' H2 ∧ Fr T H1 T' H2 ∧ forGo c tg body (items.drop (i + 1)) sl' io' = some r, fun σ2 H2 hN => ⟨m - 1, by omega, by omega, hN⟩, fun v H2 hy => ?_⟩
      obtain ⟨ex, hd⟩ := g2 v H2 hy
      refine tg_run (hR'.ex ex) hd e3 fun σ3 hr3 => ?_
      refine ⟨T', sl1, io', hr3, x, e4, ?_⟩
      have hf1 := hf.trans (Fr.of_stp (Stp.of_ex (T := T') ex))
      cases x with
      | nx sl2 io2 => exact fun T2 σ2 H3 hr2 hf2 => ⟨T2, sl2, io2, hr2, hf1.trans hf2, e5⟩
      | ct sl2 io2 => exact fun T2 σ2 H3 hr2 hf2 => ⟨T2, sl2, io2, hr2, hf1.trans hf2, e5⟩
      | bk sl2 io2 =>
        cases e5
        exact fun T2 σ2 H3 hr2 hf2 => q1 T2 σ2 H3 hr2 (hf1.trans hf2)
      | rt a io2 =>
        cases e5
        exact (q1.fr hf1 : RtOk X.K T' H2 D (.rt a io2))
    · cases e'
  · have hdr : items.drop i = [] := List.drop_eq_nil_of_le (by omega)
    rw [hdr] at e'
    unfold forGo at e'
    split at e'
    · rename_i hck
      cases e'
      exact .inl ⟨src.stop T' io' H' i hf hR'.io hck (by omega), q1 T' σ' H' hR' hf⟩
    · cases e'

/-! ### comprehensions -/
def wipeS (sl : List S) : List Nat → List S
  | [] => sl
  | v :: vs => (wipeS sl vs).set v .un
theorem Rel.wipe {K : PySem.W.Frag} {T : List Addr} {σ : L2.St} {sl : List S} {io : IO} {H : Hp} (h : Rel K T σ sl io H) : ∀ vs : List Nat, Rel K T (L2.wipe σ vs) (wipeS sl vs) io H
  | [] => h
  | v :: vs => by
    have ih := h.wipe vs
    refine ⟨?_, fun j sj e => ?_, ih.io⟩
    · unfold L2.wipe wipeS; rw [List.length_set, List.length_set]; exact ih.len
    · unfold wipeS at e
      unfold L2.wipe
      by_cases hj : v = j
      · subst hj
        have hl : v < ((wipeS sl vs).set v .un).length := (List.getElem?_eq_some_iff.mp e).1
        rw [List.length_set] at hl
        rw [List.getElem?_set_self hl] at e
        cases e
        trivial
      · rw [List.getElem?_set_ne hj] at e
        rw [List.getElem?_set_ne hj]
        exact ih.slot j sj e
/-- an item of a new list: immutable, or a new list of immutable ones -/
def lcItem : A → Option D
  | .dat d => if im d = true then some d else none
  | .tmp ds => if imAll ds = true then some (.list ds) else none
  | .ref _ => none
def lcGo (c : Chk) (tg : Tg) (t : DT) (f : DE) (sl : List S) : List D → Nat → IO → Option (List D × IO)
  | [], _, io => if chk c io = true then some ([], io) else none
  | d :: r, n, io => if chk c io = true ∧ n < LIM then (tgGo tg d sl).bind fun sl1 => (t sl1 io).bind fun p => if p.1 then (f sl1 p.2).bind fun q => (lcItem q.1).bind fun y => (lcGo c tg t f sl r (n + 1) q.2).map fun z => (y :: z.1, z.2) else lcGo c tg t f sl r (n + 1) p.2 else none
def dLc (it : DI) (tg : Tg) (t : DT) (f : DE) (vs : List Nat) : DE := fun sl io => (it sl io).bind fun p => (lcGo p.1.2 tg t f (wipeS sl vs) p.1.1 0 p.2).map fun z => (.tmp z.1, z.2)
theorem lcItem_ok {K : PySem.W.Frag} {T : List Addr} {H H1 : Hp} {v : V} {a : A} {d : D} {Da : Addr} (t : TL (Da :: T) H1) (hD : H Da ≠ none) (h : VOk K T H H1 v a) (e : lcItem a = some d) : Dd K (out (Da :: T) H1) v d := by
  cases a with
  | dat d' =>
    simp only [lcItem] at e
    split at e
    · rename_i hi
      cases e
      have h' : Dd K (out T H1) v d := h
      exact (h'.mono out_ex).imOut t hi
    · cases e
  | tmp ds =>
    simp only [lcItem] at e
    split at e
    · rename_i hi
      cases e
      obtain ⟨p, xs, rfl, n, nt, hp, hd⟩ := h
      have hnm : p ∉ Da :: T := fun z => by
        rcases List.mem_cons.mp z with z | z
        · subst z; exact hD n
        · exact nt z
      exact .lst (by rw [out_not hnm]; exact hp) ((hd.mono out_ex).imOut t hi)
    · cases e
  | ref k => cases e
/-- one turn's store of the target names only its own slots -/
theorem gTg_wipe {K : PySem.W.Frag} {tg : Tg} {vs : List Nat} : (match tg with | .one i => i ∈ vs | .many is => ∀ i ∈ is, i ∈ vs) → ∀ {v : V} {σ : L2.St} {H : Hp} {Q : L2.St → Hp → Prop}, gTg K tg v (L2.wipe σ vs) H Q → gTg K tg v (L2.wipe σ vs) H fun σ2 H2 => L2.wipe σ2 vs = L2.wipe σ vs ∧ Q σ2 H2 := by
  have set1 : ∀ (σ : L2.St) (i : Nat) (v : V), i ∈ vs → ∀ σ0, L2.wipe σ vs = L2.wipe σ0 vs → L2.wipe (σ.set i (some v)) vs = L2.wipe σ0 vs := by
    intro σ i v hi σ0 h
    rw [← h]
    have key : ∀ (us : List Nat) (τ : L2.St) (j : Nat), (L2.wipe τ us)[j]? = if j ∈ us ∧ j < τ.length then some none else τ[j]? := by
      intro us
      induction us with
      | nil => intro τ j; simp [L2.wipe]
      | cons u us ih =>
        intro τ j
        unfold L2.wipe
        by_cases hj : u = j
        · subst hj
          by_cases hl : u < τ.length
          · rw [List.getElem?_set_self (by rw [L2.wipe_length]; exact hl)]
            simp [hl]
          · rw [List.getElem?_eq_none (by rw [List.length_set, L2.wipe_length]; omega), List.getElem?_eq_none (by omega)]
            simp [hl]
        · rw [List.getElem?_set_ne hj, ih]
          have : (j = u) = False := by simp; exact fun z => hj z.symm
          simp [List.mem_cons, this]
    apply List.ext_getElem?
    intro j
    rw [key, key, List.length_set]
    by_cases hj : j ∈ vs ∧ j < σ.length
    · rw [if_pos hj, if_pos hj]
    · rw [if_neg hj, if_neg hj]
      by_cases hij : i = j
      · subst hij
        have hl : ¬ i < σ.length := fun z => hj ⟨hi, z⟩
        rw [List.getElem?_eq_none (by rw [List.length_set]; omega), List.getElem?_eq_none (by omega)]
      · rw [List.getElem?_set_ne hij]
  have ww : ∀ (σ : L2.St), L2.wipe (L2.wipe σ vs) vs = L2.wipe σ vs := by
    intro σ
    have key : ∀ (us : List Nat) (τ : L2.St) (j : Nat), (L2.wipe τ us)[j]? = if j ∈ us ∧ j < τ.length then some none else τ[j]? := by
      intro us
      induction us with
      | nil => intro τ j; simp [L2.wipe]
      | cons u us ih =>
        intro τ j
        unfold L2.wipe
        by_cases hj : u = j
        · subst hj
          by_cases hl : u < τ.length
          · rw [List.getElem?_set_self (by rw [L2.wipe_length]; exact hl)]
            simp [hl]
          · rw [List.getElem?_eq_none (by rw [List.length_set, L2.wipe_length]; omega), List.getElem?_eq_none (by omega)]
            simp [hl]
        · rw [List.getElem?_set_ne hj, ih]
          have : (j = u) = False := by simp; exact fun z => hj z.symm
          simp [List.mem_cons, this]
    apply List.ext_getElem?
    intro j
    rw [key, key, L2.wipe_length]
    by_cases hj : j ∈ vs ∧ j < σ.length
    · rw [if_pos hj, if_pos hj]
    · rw [if_neg hj, if_neg hj]
  cases tg with
  | one i =>
    intro hv v σ H Q hq
    exact ⟨set1 _ i v hv σ (ww σ), hq⟩
  | many is =>
    intro hv v σ H Q hq
    obtain ⟨a, xs, e, hs, hl, hq⟩ := hq
    refine ⟨a, xs, e, hs, hl, ?_⟩
    have go : ∀ (is : List Nat), (∀ i ∈ is, i ∈ vs) → ∀ (xs : List V) (τ : L2.St), L2.wipe τ vs = L2.wipe σ vs → gNm is xs τ H Q → gNm is xs τ H fun σ2 H2 => L2.wipe σ2 vs = L2.wipe σ vs ∧ Q σ2 H2 := by
      intro is
      induction is with
      | nil => intro _ xs τ hw h; exact ⟨h.1, hw, h.2⟩
      | cons i is ih =>
        intro hm xs τ hw h
        obtain ⟨v, r, e, h⟩ := h
        exact ⟨v, r, e, ih (fun j hj => hm j (List.mem_cons_of_mem _ hj)) r _ (set1 τ i v (hm i List.mem_cons_self) σ hw) h⟩
    exact go is hv xs _ (ww σ) hq
theorem out_upd {T : List Addr} {H : Hp} {Da : Addr} {o : HO} (hm : Da ∈ T) : out T (upd H Da o) = out T H := by
  funext b
  unfold out
  by_cases hb : b ∈ T
  · rw [if_pos hb, if_pos hb]
  · rw [if_neg hb, if_neg hb, upd_ne (fun z => hb (by rw [z]; exact hm))]
theorem IoOk.side {K : PySem.W.Frag} {T : List Addr} {io : IO} {H : Hp} (i : IoOk K T io H) {Da : Addr} {ys : List V} {o : HO} (hn : Da ∉ T) (hD : H Da = some (.lst ys)) : IoOk K T io (upd H Da o) := by
  refine ⟨i.nd, i.len, fun k p hp => ?_⟩
  obtain ⟨ds, xs, e1, e2, e3, e4⟩ := i.at_ k p hp
  have hm : p ∈ T := List.mem_iff_getElem?.mpr ⟨k, hp⟩
  have hne : p ≠ Da := fun z => hn (by rw [← z]; exact hm)
  refine ⟨ds, xs, e1, by rw [upd_ne hne]; exact e2, ?_, e4⟩
  have tl : TL (Da :: T) H := fun b hb => by
    rcases List.mem_cons.mp hb with z | z
    · rw [z]; exact ⟨ys, hD⟩
    · exact i.tl b z
  refine ((e3.mono out_ex).imOut tl e4).mono fun b o' e => ?_
  obtain ⟨nb, e'⟩ := out_some e
  rw [out_not (fun z => nb (List.mem_cons_of_mem _ z)), upd_ne (fun z => nb (by rw [z]; exact List.mem_cons_self))]
  exact e'
def tgOwn (vs : List Nat) : Tg → Prop
  | .one i => i ∈ vs
  | .many is => ∀ i ∈ is, i ∈ vs
theorem lc_run {it : DI} {tg : Tg} {t : DT} {vs : List Nat} {σ : L2.St} {H : Hp} {Q : VK} (ho : tgOwn vs tg) (hh : tE X.K (dLc it tg t f vs) σ H Q) : tLc (tI X.K it) (gTg X.K tg) (tT X.K t) (tE X.K f) vs σ H Q := by
  obtain ⟨T, sl, io, hR, r, io', e, q⟩ := hh
  unfold dLc at e
  simp only [Option.bind_eq_some_iff, Option.map_eq_some_iff] at e
  obtain ⟨⟨⟨items, c⟩, io1⟩, e1, ⟨dsF, ioF⟩, e2, e3⟩ := e
  cases e3
  refine ⟨T, sl, io, hR, items, c, io1, e1, fun J H1 s1 i1 src Da hD => ?_⟩
  have hRw : Rel X.K T (L2.wipe σ vs) (wipeS sl vs) io1 H1 := (hR.step s1 i1).wipe vs
  have hDT : Da ∉ T := i1.fresh hD
  refine ⟨fun i m H' => i + m = items.length ∧ ∃ io' xs done rest, Rel X.K T (L2.wipe σ vs) (wipeS sl vs) io' H' ∧ Stp T H1 H' ∧ H' Da = some (.lst xs) ∧ DdAll X.K (out (Da :: T) H') xs done ∧ done.length ≤ i ∧ lcGo c tg t f (wipeS sl vs) (items.drop i) i io' = some (rest, ioF) ∧ done ++ rest = dsF,
    ⟨items.length, by omega, io1, [], [], dsF, hRw.ex (Ex.new hD), Stp.of_ex (Ex.new hD), upd_same, .nil, Nat.le_refl _, e2, rfl⟩, ?_⟩
  rintro i m H' ⟨em, io', xs, done, rest, hR', st', hD', hd', hl', e', ef⟩
  by_cases hlt : i < items.length
  · have hdr : items.drop i = items[i] :: items.drop (i + 1) := List.drop_eq_getElem_cons hlt
    rw [hdr] at e'
    unfold lcGo at e'
    split at e'
    · rename_i hck
      obtain ⟨hck, hn⟩ := hck
      simp only [Option.bind_eq_some_iff, Prod.exists] at e'
      obtain ⟨sl1, e3, b, io2, e4, e5⟩ := e'
      obtain ⟨g1, g2⟩ := src.go T io' H' i items[i] (Fr.of_stp st') hR'.io hck (List.getElem?_eq_getElem hlt)
      refine .inr ⟨g1, fun H2 => i + 1 + (m - 1) = items.length ∧ ∃ io' xs done rest, Rel X.K T (L2.wipe σ vs) (wipeS sl vs) io' H2 ∧ Stp T H1 H2 ∧ H2 Da = some (.lst xs) ∧ DdAll X.K (out (Da :: T) H2) xs done ∧ done.length ≤ i + 1 ∧ lcGo c tg t f (wipeS sl vs) (items.drop (i + 1)) (i + 1) io' = some (rest, ioF) ∧ done ++ rest = dsF,
        fun H2 hN => ⟨m - 1, by omega, hN⟩, fun v H2 hy => ?_⟩
      obtain ⟨ex, hd⟩ := g2 v H2 hy
      refine gTg_wipe (by cases tg <;> exact ho) (tg_run (hR'.ex ex) hd e3 fun σ3 hr3 => ?_)
      refine ⟨T, sl1, io', hr3, b, io2, e4, fun H3 s3 i3 => ?_⟩
      have st2 : Stp T H' H2 := Stp.of_ex ex
      cases b with
      | false =>
        refine iteF ?_
        simp only [Bool.false_eq_true, if_false] at e5
        have sAll := (st'.trans st2).trans s3
        have sx := st2.trans s3
        refine ⟨by omega, io2, xs, done, rest, hRw.step sAll i3, sAll, sx.keep _ _ hDT hD', hd'.mono ?_, by omega, e5, ef⟩
        intro b o e
        obtain ⟨nb, e'⟩ := out_some e
        rw [out_not nb]; exact sx.keep b o (fun z => nb (List.mem_cons_of_mem _ z)) e'
      | true =>
        refine iteT ?_
        simp only [if_true, Option.bind_eq_some_iff, Option.map_eq_some_iff, Prod.exists, Prod.mk.injEq] at e5
        obtain ⟨a, io3, e6, y, e7, zs, ioZ, e8, rfl, rfl⟩ := e5
        refine ⟨T, sl1, io2, hr3.step s3 i3, a, io3, e6, fun u H4 s4 i4 v4 => ?_⟩
        have sx := (st2.trans s3).trans s4
        have sAll := st'.trans sx
        have hD4 : H4 Da = some (.lst xs) := sx.keep _ _ hDT hD'
        have hD3 : H3 Da ≠ none := by rw [(st2.trans s3).keep _ _ hDT hD']; exact fun z => nomatch z
        have tl : TL (Da :: T) H4 := fun b hb => by
          rcases List.mem_cons.mp hb with z | z
          · rw [z]; exact ⟨xs, hD4⟩
          · exact i4.tl b z
        have hdone : DdAll X.K (out (Da :: T) H4) xs done := hd'.mono (by
          intro b o e
          obtain ⟨nb, e'⟩ := out_some e
          rw [out_not nb]; exact sx.keep b o (fun z => nb (List.mem_cons_of_mem _ z)) e')
        have hy4 : Dd X.K (out (Da :: T) H4) u y := lcItem_ok tl hD3 v4 e7
        have sUpd : Stp T H1 (upd H4 Da (.lst (xs ++ [u]))) := ⟨fun b o n e => by
          have hb : b ≠ Da := fun z => by rw [z, hD] at e; cases e
          rw [upd_ne hb]; exact sAll.keep b o n e, fun b e => by
          by_cases z : b = Da
          · rw [z, upd_same]; exact fun q => nomatch q
          · rw [upd_ne z]; exact sAll.there b e⟩
        have hxl : xs.length = done.length := hdone.length
        refine ⟨xs, hD4, ?_, by omega, io3, xs ++ [u], done ++ [y], zs, hRw.step sUpd (i4.side hDT hD4), sUpd, upd_same, ?_, by rw [List.length_append, List.length_singleton]; omega, e8, by rw [List.append_assoc]; exact ef⟩
        · unfold LIM at hn
          rw [sizeLine_eq]; omega
        · rw [out_upd List.mem_cons_self]
          exact hdone.append (.cons hy4 .nil)
    · cases e'
  · have hdr : items.drop i = [] := List.drop_eq_nil_of_le (by omega)
    rw [hdr] at e'
    unfold lcGo at e'
    split at e'
    · rename_i hck
      cases e'
      refine .inl ⟨src.stop T _ H' i (Fr.of_stp st') hR'.io hck (by omega), q _ H' (s1.trans st') hR'.io ?_⟩
      rw [List.append_nil] at ef
      subst ef
      have hd2 : DdAll X.K (out T H') xs done := hd'.mono fun b o e => by
        obtain ⟨nb, e'⟩ := out_some e
        rw [out_not (fun z => nb (List.mem_cons_of_mem _ z))]; exact e'
      exact ⟨Da, xs, rfl, s1.back hD, hDT, hD', hd2⟩
    · cases e'
def dYes : DT := fun _ io => some (true, io)
theorem PTs.imp {X : Cx} {ifs : List Expr} {t t' : TT} (h : PTs X ifs t) (hi : ∀ σ H Q, t' σ H Q → t σ H Q) : PTs X ifs t' := ⟨fun pins s σ H Q I q => h.run pins s σ H Q I (hi σ H Q q)⟩
theorem pdts_nil {X : Cx} : PTs X [] (tT X.K dYes) := PTs.imp pts_nil fun σ H Q hh => by
  obtain ⟨T, sl, io, hR, b, io', e, q⟩ := hh
  cases e
  exact q H (Stp.refl _ _) hR.io
theorem pdts_one {X : Cx} {c : Expr} {t : DT} (h : PT X c (tT X.K t)) : PTs X [c] (tT X.K t) := pts_one h
theorem pd_lc {elt tgt iter : Expr} {ifs : List Expr} {scope : Scope} {own : List (Str × Nat)} {pos : Pos} {it : DI} {tg : Tg} {t : DT} (hc : X.calm = true) (hN : X.N.Nodup) (ho : tgOwn (own.map (·.2)) tg) (hi : PI X tgt iter (tI X.K it)) (ok : BlkOk X.N X.env.scope scope own)
    (hg : ∀ (s : Shared) (H : Hp) (C : Addr) (cl : List (Str × Addr)) (fp : List Addr), PG (X.blk s H scope (compEnvC scope cl C X.env) fp) tgt (gTg X.K tg)) (ht : ∀ (s : Shared) (H : Hp) (C : Addr) (cl : List (Str × Addr)) (fp : List Addr), PTs (X.blk s H scope (compEnvC scope cl C X.env) fp) ifs (tT X.K t))
    (he : ∀ (s : Shared) (H : Hp) (C : Addr) (cl : List (Str × Addr)) (fp : List Addr), PE (X.blk s H scope (compEnvC scope cl C X.env) fp) elt (tE X.K f)) (hs : ∀ x, foldedSetIterable iter X.env x = pure x := by intro _; rfl) :
    PE X (.ListComp elt [⟨tgt, iter, ifs, 0⟩] scope pos) (tE X.K (dLc it tg t f (own.map (·.2)))) := PE.imp (pe_lc hc hN hi ok hg ht he hs) fun _ _ _ hh => lc_run ho hh
/-- y = [..]: dSet or dOwn of it -/
theorem ps_lcSet {i : Nat} {y : Str} {py : Pos} {elt tgt iter : Expr} {ifs : List Expr} {scope : Scope} {own : List (Str × Nat)} {pos spos : Pos} {it : DI} {tg : Tg} {t : DT} (hc : X.calm = true) (hN : X.N.Nodup) (ho : tgOwn (own.map (·.2)) tg) (hy : X.N[i]? = some y) (hyl : X.env.scope.names.lookup y = some .local)
    (hsw : swapsWith (.ListComp elt [⟨tgt, iter, ifs, 0⟩] scope pos) (some (.Name y py)) spos.line X.env = pure true) (hi : PI X tgt iter (tI X.K it)) (ok : BlkOk X.N X.env.scope scope own)
    (hg : ∀ (s : Shared) (H : Hp) (C : Addr) (cl : List (Str × Addr)) (fp : List Addr), PG (X.blk s H scope (compEnvC scope cl C X.env) fp) tgt (gTg X.K tg)) (ht : ∀ (s : Shared) (H : Hp) (C : Addr) (cl : List (Str × Addr)) (fp : List Addr), PTs (X.blk s H scope (compEnvC scope cl C X.env) fp) ifs (tT X.K t))
    (he : ∀ (s : Shared) (H : Hp) (C : Addr) (cl : List (Str × Addr)) (fp : List Addr), PE (X.blk s H scope (compEnvC scope cl C X.env) fp) elt (tE X.K f)) (hs : ∀ x, foldedSetIterable iter X.env x = pure x := by intro _; rfl) :
    PS X (.Assign [.Name y py] (.ListComp elt [⟨tgt, iter, ifs, 0⟩] scope pos) spos) (tAsg (tE X.K (dLc it tg t f (own.map (·.2)))) (gName i)) := PS.imp (ps_setLc hc hN hy hyl hsw hi ok hg ht he hs) fun D σ H hh => lc_run ho hh

/-! ### defs -/
def finish (n : Nat) : R → Option (A × IO)
  | .nx _ io => some (.dat .none, io.take n)
  | .rt (.dat d) io => if im d = true then some (.dat d, io.take n) else none
  | .rt (.tmp ds) io => if imAll ds = true then some (.tmp ds, io.take n) else none
  | .rt (.ref k) io => if n ≤ k then io[k]?.map fun ds => (.tmp ds, io.take n) else none
  | _ => none
def slots (n : Nat) (ds : List S) : List S := ds ++ List.replicate (n - ds.length) .un
def runD (np ns : Nat) (body : DS) : List D → Option A := fun ds => if ds.length = np then (body (slots ns (ds.map .dat)) []).bind fun r => (finish 0 r).map (·.1) else none
def runJ (np ns : Nat) (body : DS) : List D → List D → Option (A × List D) := fun js ds => if ds.length + 1 = np then (body (slots ns (.ref 0 :: ds.map .dat)) [js]).bind fun r => (finish 1 r).bind fun p => match p.2 with
  | [js'] => some (p.1, js')
  | _ => none else none
theorem start_slot {K : PySem.W.Frag} {H : Hp} {T : List Addr} {N : List Str} : ∀ {vs : List V} {ds : List D} {i : Nat} {s : S}, DdAll K (out T H) vs ds → (slots N.length (ds.map .dat))[i]? = some s → SOk K T H (L2.start N vs)[i]? s := by
  intro vs ds i s h e
  unfold slots at e
  unfold L2.start
  have hl := h.length
  by_cases hi : i < ds.length
  · rw [List.getElem?_append_left (by rw [List.length_map]; exact hi), List.getElem?_map, List.getElem?_eq_getElem hi] at e
    cases e
    obtain ⟨v, h1, h2⟩ := h.get (List.getElem?_eq_getElem hi)
    refine ⟨v, ?_, h2⟩
    rw [List.getElem?_append_left (by rw [List.length_map]; omega), List.getElem?_map, h1]; rfl
  · rw [List.getElem?_append_right (by rw [List.length_map]; omega)] at e
    have := List.mem_of_getElem? e
    rw [List.mem_replicate] at this
    rw [this.2]
    trivial
theorem start_len {K : PySem.W.Frag} {H : Hp} {T : List Addr} {N : List Str} {vs : List V} {ds : List D} (h : DdAll K (out T H) vs ds) : (L2.start N vs).length = (slots N.length (ds.map .dat)).length := by
  unfold slots L2.start
  simp only [List.length_append, List.length_map, List.length_replicate, h.length]
theorem out_nil_ex {H : Hp} {T : List Addr} : Ex (out T H) H := out_ex
/-- the end of a def's body: from what it hands back to the promise -/
theorem fin_ok {K : PySem.W.Frag} {T0 T' : List Addr} {H H' : Hp} {io' : IO} {v : V} {a : A} {r : A} {ios : IO} (i' : IoOk K T' io' H') (hf : Fr T0 H T' H') (hv : VOk K T' H H' v a) (e : finish T0.length (.rt a io') = some (r, ios)) : FROk K H H' v r ∧ ios = io'.take T0.length := by
  cases a with
  | dat d =>
    simp only [finish] at e
    split at e
    · rename_i hi
      cases e
      have hv' : Dd K (out T' H') v d := hv
      exact ⟨⟨hv'.mono out_ex, hi⟩, rfl⟩
    · cases e
  | tmp ds =>
    simp only [finish] at e
    split at e
    · rename_i hi
      cases e
      obtain ⟨p, xs, rfl, n, nt, hp, hd⟩ := hv
      exact ⟨⟨p, xs, rfl, n, hp, hd.mono out_ex, hi⟩, rfl⟩
    · cases e
  | ref k =>
    simp only [finish] at e
    split at e
    · rename_i hk
      rw [Option.map_eq_some_iff] at e
      obtain ⟨ds, e1, e2⟩ := e
      cases e2
      obtain ⟨p, ep, rfl⟩ := hv
      obtain ⟨es, xs, w1, w2, w3, w4⟩ := i'.at_ k p ep
      rw [e1] at w1; cases w1
      have hm : p ∈ T' := List.mem_iff_getElem?.mpr ⟨k, ep⟩
      refine ⟨⟨p, xs, rfl, ?_, w2, w3.mono out_ex, w4⟩, rfl⟩
      rcases hf.new p hm with z | z
      · exfalso
        obtain ⟨j, hj⟩ := List.mem_iff_getElem?.mp z
        obtain ⟨l, el⟩ := hf.pre
        have hj' : T'[j]? = some p := by rw [el, List.getElem?_append_left (List.getElem?_eq_some_iff.mp hj).1]; exact hj
        obtain ⟨l1, q1⟩ := List.getElem?_eq_some_iff.mp hj'
        obtain ⟨l2, q2⟩ := List.getElem?_eq_some_iff.mp ep
        have : j = k := (List.getElem_inj i'.nd).mp (q1.trans q2.symm)
        have := (List.getElem?_eq_some_iff.mp hj).1
        omega
      · exact z
    · cases e
theorem runD_ok {K : PySem.W.Frag} {np : Nat} {N : List Str} {body : DS} {vs : List V} {H : Hp} {Q : VK} {E : XK} (h : spD K (runD np N.length body) vs H Q E) : tS K body { nx := fun _ H' => Q .non H', rt := Q } (L2.start N vs) H := by
  obtain ⟨ds, r, hd, e, q⟩ := h
  unfold runD at e
  split at e
  · simp only [Option.bind_eq_some_iff, Option.map_eq_some_iff, Prod.exists] at e
    obtain ⟨x, e1, r', ios, e2, rfl⟩ := e
    have hd' : DdAll K (out [] H) vs ds := by rw [out_nil]; exact hd
    refine ⟨[], _, [], ⟨start_len hd', fun i s hs => start_slot hd' hs, ⟨.nil, rfl, fun k p hp => by simp at hp⟩⟩, x, e1, ?_⟩
    have ex : ∀ {T' : List Addr} {H' : Hp}, Fr [] H T' H' → Ex H H' := fun f b o e => f.keep b o (fun z => nomatch z) e
    cases x with
    | nx sl' io' =>
      simp only [finish] at e2
      cases e2
      exact fun T' σ' H' hr hf => q _ H' (ex hf) ⟨.non, rfl⟩
    | rt a io' => exact fun T' v H' i' hf hv => q v H' (ex hf) (fin_ok (T0 := []) i' hf hv e2).1
    | bk sl' io' => cases e2
    | ct sl' io' => cases e2
  · cases e
theorem runJ_ok {K : PySem.W.Frag} {np : Nat} {N : List Str} {body : DS} {vs : List V} {H : Hp} {Q : VK} {E : XK} (h : spJ K (runJ np N.length body) vs H Q E) : tS K body { nx := fun _ H' => Q .non H', rt := Q } (L2.start N vs) H := by
  obtain ⟨p, vs', xs, js, ds, r, js', rfl, hp, hj, hi, hd, e, q⟩ := h
  unfold runJ at e
  split at e
  · simp only [Option.bind_eq_some_iff, Prod.exists] at e
    obtain ⟨x, e1, r', ios, e2, e3⟩ := e
    have io1 : IoOk K [p] [js] H := ⟨by simp, rfl, fun k p' hp' => by
      cases k with
      | zero => cases hp'; exact ⟨js, xs, rfl, hp, hj, hi⟩
      | succ k => simp at hp'⟩
    have hR : Rel K [p] (L2.start N (.ref p :: vs')) (slots N.length (.ref 0 :: ds.map .dat)) [js] H := by
      refine ⟨?_, fun i s hs => ?_, io1⟩
      · unfold slots L2.start
        simp only [List.map_cons, List.length_append, List.length_cons, List.length_map, List.length_replicate, hd.length]
      · unfold slots at hs
        unfold L2.start
        cases i with
        | zero =>
          simp only [List.cons_append, List.getElem?_cons_zero] at hs
          cases hs
          exact ⟨p, rfl, rfl⟩
        | succ i =>
          simp only [List.cons_append, List.getElem?_cons_succ, List.map_cons] at hs ⊢
          have hl := hd.length
          by_cases hlt : i < ds.length
          · rw [List.getElem?_append_left (by rw [List.length_map]; exact hlt), List.getElem?_map, List.getElem?_eq_getElem hlt] at hs
            cases hs
            obtain ⟨v, h1, h2⟩ := hd.get (List.getElem?_eq_getElem hlt)
            refine ⟨v, ?_, h2⟩
            rw [List.getElem?_append_left (by rw [List.length_map]; omega), List.getElem?_map, h1]; rfl
          · rw [List.getElem?_append_right (by rw [List.length_map]; omega)] at hs
            have := List.mem_of_getElem? hs
            rw [List.mem_replicate] at this
            rw [this.2]
            trivial
    refine ⟨[p], _, [js], hR, x, e1, ?_⟩
    have kp : ∀ {T' : List Addr} {H' : Hp}, Fr [p] H T' H' → ∀ b o, b ≠ p → H b = some o → H' b = some o := fun f b o n e => f.keep b o (fun z => n (List.mem_singleton.mp z)) e
    have lst : ∀ {T' : List Addr} {io' : IO} {H' : Hp}, Fr [p] H T' H' → IoOk K T' io' H' → io'.take 1 = [js'] → ∃ xs', H' p = some (.lst xs') ∧ DdAll K (out [p] H') xs' js' ∧ imAll js' = true := fun {T' io' H'} f i et => by
      obtain ⟨l, el⟩ := f.pre
      have hp' : T'[0]? = some p := by rw [el]; rfl
      obtain ⟨es, ys, w1, w2, w3, w4⟩ := i.at_ 0 p hp'
      have : es = js' := by
        cases io' with
        | nil => simp at w1
        | cons a b =>
          simp only [List.getElem?_cons_zero, Option.some.injEq] at w1
          simp only [List.take_succ_cons, List.take_zero, List.cons.injEq, and_true] at et
          rw [← w1, et]
      subst this
      exact ⟨ys, w2, w3.mono (out_one (List.mem_iff_getElem?.mpr ⟨0, hp'⟩)), w4⟩
    cases x with
    | nx sl' io' =>
      simp only [finish] at e2
      cases e2
      split at e3
      · rename_i jz hz
        cases e3
        exact fun T' σ' H' hr hf => q _ H' (kp hf) (lst hf hr.io hz) ⟨.non, rfl⟩
      · cases e3
    | rt a io' =>
      refine fun T' v H' i' hf hv => ?_
      obtain ⟨f1, f2⟩ := fin_ok (T0 := [p]) i' hf hv e2
      split at e3
      · rename_i jz hz
        cases e3
        exact q v H' (kp hf) (lst hf i' f2.symm) f1
      · cases e3
    | bk sl' io' => cases e2
    | ct sl' io' => cases e2
  · cases e
end
section
variable {P : Program} {w : World} {K : PySem.W.Frag} {mg : Str → Option Value} {base : Heap}
theorem spD_len {np ns : Nat} {body : DS} {ps : List Str} (h : ps.length = np) : ∀ vs H Q E, spD K (runD np ns body) vs H Q E → vs.length = ps.length := fun vs H Q E ⟨ds, r, hd, e, _⟩ => by
  unfold runD at e
  split at e
  · rename_i hl
    rw [hd.length, h, hl]
  · cases e
theorem spJ_len {np ns : Nat} {body : DS} {ps : List Str} (h : ps.length = np) : ∀ vs H Q E, spJ K (runJ np ns body) vs H Q E → vs.length = ps.length := fun vs H Q E ⟨p, vs', xs, js, ds, r, js', e0, _, _, _, hd, e, _⟩ => by
  unfold runJ at e
  split at e
  · rename_i hl
    rw [e0, List.length_cons, hd.length, h, hl]
  · cases e
/-- THE RULE of a def of data -/
theorem okD {x qual : Str} {st : Stmt} {f : Addr} {fd : FuncData} {N ps : List Str} {k np : Nat} {body : DS} (F : Fun K x qual st f fd) (Sc : FnScope N ps (defScope st)) (hps : ps.length = np)
    (hbody : ∀ (cdv : Value) (A : Around) (outer : List Env) (s : Shared) (H : Hp) (E : XK), Room k (A.deeper (envOfC qual (defScope st) s.heap.objs.size f cdv)) →
      PSs (cxOf CX0 P w K mg base N qual (defScope st) f cdv A outer s H E).nox (defBody st) (tS K body)) : FnOk P w K mg base CX0 (k + 1) f fd ps (spD K (runD np N.length body)) :=
  F.ok Sc (spD_len hps) fun cdv A outer s H vs Q E hr h => ⟨_, hbody cdv A outer s H E hr, runD_ok (E := E) h⟩
theorem okJ {x qual : Str} {st : Stmt} {f : Addr} {fd : FuncData} {N ps : List Str} {k np : Nat} {body : DS} (F : Fun K x qual st f fd) (Sc : FnScope N ps (defScope st)) (hps : ps.length = np)
    (hbody : ∀ (cdv : Value) (A : Around) (outer : List Env) (s : Shared) (H : Hp) (E : XK), Room k (A.deeper (envOfC qual (defScope st) s.heap.objs.size f cdv)) →
      PSs (cxOf CX0 P w K mg base N qual (defScope st) f cdv A outer s H E).nox (defBody st) (tS K body)) : FnOk P w K mg base CX0 (k + 1) f fd ps (spJ K (runJ np N.length body)) :=
  F.ok Sc (spJ_len hps) fun cdv A outer s H vs Q E hr h => ⟨_, hbody cdv A outer s H E hr, runJ_ok (E := E) h⟩
end
end DD
set_option Elab.async false
set_option linter.all false
set_option maxRecDepth 100000
set_option maxHeartbeats 2000000
/-! DD: repr (nothing is being written around), defs that need that, the law's own def, the end of a row. -/
namespace DD
open PySem PySem.Spec PyProof.Rows L2

def reprD : List D → Option A
  | [.none] => some (.dat (.str (PyData.shown .none)))
  | [.bool b] => some (.dat (.str (PyData.shown (.bool b))))
  | [.int i] => if i.natAbs < 1000000 then some (.dat (.str (PyData.shown (.int i)))) else none
  | [.str s] => if (PyData.shown (.str s)).length ≤ LIM then some (.dat (.str (PyData.shown (.str s)))) else none
  | [.tuple ds] => if PyData.showable (.tuple ds) && !PyData.hasDict (.tuple ds) && decide ((PyData.shown (.tuple ds)).length ≤ LIM) && decide (PyData.depth (.tuple ds) ≤ 64) then some (.dat (.str (PyData.shown (.tuple ds)))) else none
  | [.list ds] => if PyData.showable (.list ds) && !PyData.hasDict (.list ds) && decide ((PyData.shown (.list ds)).length ≤ LIM) && decide (PyData.depth (.list ds) ≤ 64) then some (.dat (.str (PyData.shown (.list ds)))) else none
  | _ => none
section
variable {X : Cx}
theorem repr_ref {pins : List (Addr × Obj)} {s : Shared} {σ : L2.St} {H : Hp} {p : Addr} {d : D} {Q : VK} (hG : X.A.guards = some []) (hu : X.A.units + 66 < cLine) (I : Inv X pins σ H s) (hd : Dd X.K H (.ref p) d)
    (h1 : PyData.showable d = true) (h2 : PyData.hasDict d = false) (h3 : (PyData.shown d).length ≤ LIM) (h4 : PyData.depth d ≤ 64) (q : Q (.str (PyData.shown d)) H) : wpAny (model X.prog X.w) X.A (call (.builtin "repr") [.ref p]) (EP X pins σ Q) X.xe s := by
  obtain ⟨as, hr⟩ := Dp.reads I d (.ref p) (.ref p) (hd.dp h2) rfl
  exact repr_of_reads' hr h1 (fun z => by rw [h2] at z; cases z) hG (by omega) (fun _ _ e => e) (fun h' u tk hk => ⟨.str (PyData.shown d), H, I.kept hk, ⟨u, rfl⟩, q⟩) (lim_le h3)
theorem call_reprD (hG : X.A.guards = some []) (hu : X.A.units + 66 < cLine) : CallR X (.builtin "repr") (rC X.K reprD) := by
  intro pins s σ H xs us Q I r ⟨T, ds, a, hx, ht, ho, q⟩
  have one1 : ∀ {d : D}, VwAll X.K T H xs [d] → ∃ v u, xs = [v] ∧ us = [u] ∧ RelV v u ∧ VwOk X.K T H v d := fun {d} hx => by
    cases hx with
    | cons h1 hn =>
      cases hn
      obtain ⟨u, rfl, ru⟩ := r.one
      exact ⟨_, u, rfl, rfl, ru, h1⟩
  unfold reprD at ho
  split at ho
  · cases ho
    obtain ⟨v, u, rfl, rfl, ru, hv⟩ := one1 hx
    cases hv.non; cases ru
    exact PySem.P.repr_of_none ⟨.str _, H, I.tok _, ⟨_, rfl⟩, q _ H (Ex.refl _) (.str _)⟩
  · cases ho
    obtain ⟨v, u, rfl, rfl, ru, hv⟩ := one1 hx
    cases hv.bl; cases ru
    exact PySem.P.repr_of_bool ⟨.str _, H, I.tok _, ⟨_, rfl⟩, q _ H (Ex.refl _) (.str _)⟩
  · split at ho
    · cases ho
      obtain ⟨v, u, rfl, rfl, ru, hv⟩ := one1 hx
      cases hv.int
      obtain ⟨t, rfl⟩ := ru
      exact PySem.P.repr_of_int (log2_small (by assumption)) ⟨.str _, H, I.tok _, ⟨_, rfl⟩, q _ H (Ex.refl _) (.str _)⟩
    · cases ho
  · split at ho
    · cases ho
      obtain ⟨v, u, rfl, rfl, ru, hv⟩ := one1 hx
      cases hv.str
      obtain ⟨t, rfl⟩ := ru
      exact PySem.P.repr_of_str ⟨.str _, H, I.tok _, ⟨_, rfl⟩, q _ H (Ex.refl _) (.str _)⟩ (lim_le (by assumption))
    · cases ho
  · split at ho
    · rename_i hc
      simp only [Bool.and_eq_true, Bool.not_eq_true', decide_eq_true_eq] at hc
      cases ho
      obtain ⟨v, u, rfl, rfl, ru, hv⟩ := one1 hx
      obtain ⟨p, ys, rfl, hp, hd⟩ := hv.tup
      cases ru
      exact repr_ref hG hu I hv.dd hc.1.1.1 hc.1.1.2 hc.1.2 hc.2 (q _ H (Ex.refl _) (.str _))
    · cases ho
  · split at ho
    · rename_i hc
      simp only [Bool.and_eq_true, Bool.not_eq_true', decide_eq_true_eq] at hc
      cases ho
      obtain ⟨v, u, rfl, rfl, ru, hv⟩ := one1 hx
      obtain ⟨p, ys, rfl, hp, hd⟩ := hv.lst
      cases ru
      exact repr_ref hG hu I hv.dd hc.1.1.1 hc.1.1.2 hc.1.2 hc.2 (q _ H (Ex.refl _) (.str _))
    · cases ho
  · cases ho
end

/-! ### defs called where no repr is under way -/
structure FnG (P : Program) (w : World) (K : PySem.W.Frag) (mg : Str → Option Value) (base : Heap) (CX : CXT) (k : Nat) (f : Addr) (fd : FuncData) (ps : List Str) (sp : Sp) : Prop where
  len : ∀ vs H Q E, sp vs H Q E → vs.length = ps.length
  run : ∀ (A : Around) (outer : List Env) (s : Shared) (H : Hp) (args : Args) (us : List Value) (vs : List V) (Q : VK) (E : XK), A.guards = some [] → Room k A → Env0 P w K mg base A outer s H → BindsTo s fd args (ps.zip us) → Vals vs us → sp vs H Q E →
    codeAny (model P w) A (.call (.ref f) args) (CR CX outer P w H s Q E) s
theorem FnG.of {P : Program} {w : World} {K : PySem.W.Frag} {mg : Str → Option Value} {base : Heap} {CX : CXT} {k : Nat} {f : Addr} {fd : FuncData} {ps : List Str} {sp : Sp} (F : FnOk P w K mg base CX k f fd ps sp) : FnG P w K mg base CX k f fd ps sp :=
  ⟨F.len, fun A outer s H args us vs Q E _ hr he hb hv hs => F.run A outer s H args us vs Q E hr he hb hv hs⟩
section
variable {X : Cx} {f g : DE}
theorem run_fnG {CX : CXT} {k : Nat} {fa : Addr} {fd : FuncData} {ps : List Str} {sp : Sp} {E : XK} {pins : List (Addr × Obj)} {σ : L2.St} {H : Hp} {s : Shared} {Q : VK} {us ws : List Value} {kw : List (Str × Value)} {vs : List V} (F : FnG X.prog X.w X.K X.mg X.base CX k fa fd ps sp) (hG : X.A.guards = some []) (hr : Room k X.A)
    (hx : Passes CX X E) (I : Inv X pins σ H s) (hb : BindsTo s fd ⟨us, kw⟩ (ps.zip ws)) (r : Vals vs ws) (h : sp vs H Q E) : wpAny (model X.prog X.w) X.A (call (.ref fa) us kw) (EP X pins σ Q) X.xe s :=
  wpAny_call (codeAny_mono (F.run X.A X.stack s H ⟨us, kw⟩ ws vs Q E hG hr I.env0 hb r h) fun r s' hq => match r, hq with
    | .error e, hq => hx pins σ H s e s' I hq
    | .ok (.ret _), hq => I.after hq
    | .ok .next, hq => False.elim hq
    | .ok .brk, hq => False.elim hq
    | .ok .cont, hq => False.elim hq)
theorem pd_fnG {CX : CXT} {k : Nat} {fa : Addr} {fd : FuncData} {ps : List Str} {E : XK} {x : Str} {p pos : Pos} {e : Expr} {es : List Expr} {F : List D → Option A} {g : DA} (G : FnG X.prog X.w X.K X.mg X.base CX k fa fd ps (spD X.K F)) (hG : X.A.guards = some []) (hr : Room k X.A) (hg : Gl X x) (hm : X.mg x = some (.ref fa)) (hk : PySem.W.keepIn X.K (.ref fa) = true) (hb : Binds X.K fd ps []) (hx : Passes CX X E)
    (ha : PA X (e :: es) (tA X.K g)) (hdb : (x == ("__debug__" : Str)) = false := by decide) (he : starEach (e :: es) X.env = (false, eval e X.env) :: starEach es X.env := by rfl) (hpl : (backTo pos (starEach es X.env)).any (·.1) = false := by rfl) :
    PE X (.Call (.Name x p) (e :: es) [] pos) (tE X.K (dFn F g)) := by
  refine ⟨fun pins s σ H Q I hh => ?_⟩
  have h2 : tA X.K g σ H fun vs H1 => spD X.K F vs H1 Q E := by
    have := fn_run (E := E) hh
    unfold tCall at this
    simpa only [List.append_nil] using this
  refine wpAny_Call_Name_kw (ld_glob I hg hm ?_ hdb)
  refine PySem.W.callWith_K (h₀ := X.base) I.ok.mod.kin hk (thn (ha.run pos pins s σ H _ I h2) fun us s1 hv => ?_) he hpl
  obtain ⟨vs, H1, I1, r, q⟩ := hv
  have hl : (us ++ []).length = ps.length := by
    rw [List.append_nil, ← r.length]; exact G.len _ _ _ _ q
  have hb1 := hb s1 us I1.kIn hl
  rw [List.append_nil] at hb1
  exact ⟨I1.kIn, run_fnG (E := E) G hG hr hx I1 hb1 r q⟩
end
section
variable {P : Program} {w : World} {K : PySem.W.Frag} {mg : Str → Option Value} {base : Heap}
/-- a def's promise by its body, where no repr is under way -/
theorem okG {x qual : Str} {st : Stmt} {f : Addr} {fd : FuncData} {N ps : List Str} {k : Nat} {sp : Sp} {body : DS} (F : Fun K x qual st f fd) (Sc : FnScope N ps (defScope st)) (hlen : ∀ vs H Q E, sp vs H Q E → vs.length = ps.length)
    (hstart : ∀ vs H Q E, sp vs H Q E → tS K body { nx := fun _ H' => Q .non H', rt := Q } (L2.start N vs) H)
    (hbody : ∀ (cdv : Value) (A : Around) (outer : List Env) (s : Shared) (H : Hp) (E : XK), A.guards = some [] → Room k (A.deeper (envOfC qual (defScope st) s.heap.objs.size f cdv)) →
      PSs (cxOf CX0 P w K mg base N qual (defScope st) f cdv A outer s H E).nox (defBody st) (tS K body)) : FnG P w K mg base CX0 (k + 1) f fd ps sp := by
  obtain ⟨oc, od, kV, doc, pm, an, cdv, ct, osl, rfl, lk, hcd⟩ := F.ex
  refine ⟨hlen, fun A outer s H args us vs Q E hG hr e0 hb r hsp => ?_⟩
  have inS : ∀ b o, base.get? b = some o → s.heap.get? b = some o := fun b o e => (e0.bs b o e).1
  have KX : K.In s.heap := e0.mod.kin.keeps inS
  refine codeAny_call_function hr.depth (KX _ _ lk) rfl Sc.co Sc.gen rfl (PySem.W.codeRec_of KX hcd) (hb _ _ _ _ (wpAny_newFunctionEnv_cells Sc.kind (fun y hy => ?_) fun env he s1 x => ?_))
  · exact (Sc.par y.1 (List.of_mem_zip hy).1).imp id fun z => ⟨z, PySem.W.cellsFrom_some _ _ _ (.inl z)⟩
  · subst he
    have I : Inv (cxOf CX0 P w K mg base N qual (defScope st) f cdv A outer s H E) [] (L2.start N vs) H s1 := inv_start Sc hr.hd e0 (hlen _ _ _ _ hsp) r x
    refine ⟨(e0.mod.nolimit.keeps inS).keeps x.toInCall.keep, codeAny_func (wpAny_mono (((hbody cdv A outer s H E hG (hr.deeper _)).nox).run [] s1 (L2.start N vs) H _ I (hstart _ _ _ _ hsp)) (fun fl s' hs => ?_) fun e s' hs => hs)⟩
    match fl, hs with
    | .ret u, ⟨v, σ', H', J, rv, q⟩ => exact ⟨v, H', J.os, J.bare, J.base, J.hok, rv, q⟩
    | .next, ⟨σ', H', J, q⟩ => exact ⟨.non, H', J.os, J.bare, J.base, J.hok, rfl, q⟩
    | .brk, ⟨_, _, _, q⟩ => exact q.elim
    | .cont, ⟨_, _, _, q⟩ => exact q.elim
theorem okDG {x qual : Str} {st : Stmt} {f : Addr} {fd : FuncData} {N ps : List Str} {k np : Nat} {body : DS} (F : Fun K x qual st f fd) (Sc : FnScope N ps (defScope st)) (hps : ps.length = np)
    (hbody : ∀ (cdv : Value) (A : Around) (outer : List Env) (s : Shared) (H : Hp) (E : XK), A.guards = some [] → Room k (A.deeper (envOfC qual (defScope st) s.heap.objs.size f cdv)) →
      PSs (cxOf CX0 P w K mg base N qual (defScope st) f cdv A outer s H E).nox (defBody st) (tS K body)) : FnG P w K mg base CX0 (k + 1) f fd ps (spD K (runD np N.length body)) :=
  okG F Sc (spD_len hps) (fun vs H Q E h => runD_ok (E := E) h) hbody
/-! the law's own def -/
def runLaw (ns : Nat) (body : DS) : List Int → Option Bool := fun xs => (body (slots ns [.scr xs]) []).bind fun r => match r with
  | .rt (.dat (.bool b)) _ => some b
  | _ => none
def spLaw (K : PySem.W.Frag) (F : List Int → Option Bool) : Sp := fun vs H Q _ => ∃ a xs, vs = [.ref a] ∧ SqL K H a (xs.map V.int) ∧ F xs = some true ∧ ∀ H', Q (.bl true) H'
theorem runLaw_ok {N : List Str} {body : DS} {vs : List V} {H : Hp} {Q : VK} {E : XK} (h : spLaw K (runLaw N.length body) vs H Q E) : tS K body { nx := fun _ H' => Q .non H', rt := Q } (L2.start N vs) H := by
  obtain ⟨a, xs, rfl, ha, e, q⟩ := h
  unfold runLaw at e
  simp only [Option.bind_eq_some_iff] at e
  obtain ⟨r, e1, e2⟩ := e
  have hR : Rel K [] (L2.start N [.ref a]) (slots N.length [.scr xs]) [] H := by
    refine ⟨?_, fun i s hs => ?_, ⟨.nil, rfl, fun k p hp => by simp at hp⟩⟩
    · unfold slots L2.start; simp
    · unfold slots at hs
      unfold L2.start
      cases i with
      | zero =>
        simp only [List.cons_append, List.getElem?_cons_zero] at hs
        cases hs
        exact ⟨a, rfl, by rw [out_nil]; exact ha⟩
      | succ i =>
        simp only [List.cons_append, List.getElem?_cons_succ, List.nil_append] at hs
        have := List.mem_of_getElem? hs
        rw [List.mem_replicate] at this
        rw [this.2]
        trivial
  refine ⟨[], _, [], hR, r, e1, ?_⟩
  split at e2
  · rename_i b io
    cases e2
    intro T' v H' i' hf hv
    have hv' : Dd K (out T' H') v (.bool true) := hv
    cases hv'
    exact q H'
  · cases e2
theorem spLaw_len {F : List Int → Option Bool} : ∀ vs H Q E, spLaw K F vs H Q E → vs.length = (["script"] : List Str).length := fun vs H Q E ⟨a, xs, e, _⟩ => by rw [e]; rfl
end
def FUEL : Nat := 3000
def eqO : D → D → Option A := fun d e => (eqD d e).map blA
def neO : D → D → Option A := fun d e => (eqD d e).map fun b => blA (!b)
def inO : D → D → Option A := fun d e => (inD d e).map blA
def ninO : D → D → Option A := fun d e => (inD d e).map fun b => blA (!b)
theorem _root_.L2.Room.u66 {k : Nat} {A : Around} (r : Room k A) : A.units + 66 < cLine := by have := r.un; omega
/-! ### the end of a row -/
section
/-- the abstract heap at the law's entry: the script alone, if it is none of the module's own objects -/
def only (K : PySem.W.Frag) (a : Addr) (vs : List Value) (ns : List Int) : Hp := fun b => match K.lookup a with
  | some _ => none
  | none => if b = a then some (.frz { cls := .type "list", data := .seq vs.toArray } (.lst (ns.map V.int))) else none
theorem only_cases {K : PySem.W.Frag} {a b : Addr} {vs : List Value} {ns : List Int} : only K a vs ns b = none ∨ (b = a ∧ K.lookup a = none ∧ only K a vs ns b = some (.frz { cls := .type "list", data := .seq vs.toArray } (.lst (ns.map V.int)))) := by
  unfold only
  cases K.lookup a with
  | some o => exact .inl rfl
  | none =>
    by_cases h : b = a
    · exact .inr ⟨h, rfl, if_pos h⟩
    · exact .inl (if_neg h)
theorem law_callG {P : Program} {w : World} {K : PySem.W.Frag} {mg mb : Str → Option Value} {k : Nat} {fa a : Addr} {fd : FuncData} {x : Str} {Fl : List Int → Option Bool} {s₁ : Shared} {vs : List Value} {ns : List Int}
    (KX : K.In s₁.heap) (hns : s₁.heap.Ns mainGlobals mg) (hb : s₁.heap.Ns builtinsNs mb) (hbb : ∀ x : Str, x ≠ "__name__" → mb x = bootBuiltins x) (hlim : s₁.heap.NoLimit) (hg : s₁.gens = #[])
    (ha : s₁.heap.get? a = some { cls := .type "list", data := .seq vs.toArray }) (hi : IntsAre vs ns) (hl : ns.length ≤ sizeLine) (hr : Room k callerA)
    (F : ∀ base : Heap, K.In base → base.Ns mainGlobals mg → FnG P w K mg base CX0 k fa fd [x] (spLaw K Fl)) (hbind : ∀ (s : Shared) (u : Value), BindsTo s fd ⟨[u], []⟩ [(x, u)]) (hF : Fl ns = some true) :
    codeAny (model P w) callerA (.call (.ref fa) ⟨[.ref a], []⟩) (fun r s' => r = .ok (.ret (.bool true)) ∧ OldK s₁.heap s'.heap ∧ s'.os = s₁.os ∧ AllBare s'.gens) s₁ := by
  have rv : Vals (ns.map V.int) vs := vals_ints hi
  let H := only K a vs ns
  have hdict : ∀ {b : Addr} {o : Obj} {es : Array DictEntry} {ep : Nat}, s₁.heap.get? b = some o → o.data = .dict es ep → H b = none := fun {b o es ep} e d => by
    rcases only_cases (K := K) (a := a) (b := b) (vs := vs) (ns := ns) with h | ⟨rfl, _, _⟩
    · exact h
    · rw [ha] at e
      cases e
      have d' : Data.seq vs.toArray _ = Data.dict es ep := d
      cases d'
  have ground : ∀ {b : Addr} {m : Str → Option Value}, s₁.heap.Ns b m → (hidT s₁.heap H).Ns b m := fun {b m} ⟨o, es, ep, e, d, r⟩ => ⟨o, es, ep, hidT_get e (hdict e d), d, r⟩
  have inB : K.In (hidT s₁.heap H) := fun b o e => hidT_get (KX b o e) (by
    rcases only_cases (K := K) (a := a) (b := b) (vs := vs) (ns := ns) with h | ⟨rfl, h, _⟩
    · exact h
    · rw [h] at e; cases e)
  have hok : HOk P w H s₁.heap := fun b o e => by
    rcases only_cases (K := K) (a := a) (b := b) (vs := vs) (ns := ns) with h | ⟨rfl, _, h⟩
    · have z : (none : Option HO) = some o := h.symm.trans e
      cases z
    · have z := Option.some.inj (h.symm.trans e)
      subst z
      exact ⟨ha, by rw [List.length_map]; exact hl, vs, _, rv, ha⟩
  have hS : SqL K H a (ns.map V.int) := by
    cases q : K.lookup a with
    | some o =>
      have e := KX a o q
      rw [ha] at e
      cases e
      exact .inr ⟨_, vs.toArray, _, q, rfl, rfl, rfl, by rw [List.size_toArray, ← rv.length, List.length_map]; exact hl, by rw [List.toList_toArray]; exact rv⟩
    | none =>
      refine .inl (.inr ⟨{ cls := .type "list", data := .seq vs.toArray }, ?_⟩)
      show only K a vs ns a = _
      unfold only
      rw [q]
      exact if_pos rfl
  obtain ⟨mc, c1, c2⟩ := hlim
  have hM : Mod K mg (hidT s₁.heap H) := ⟨inB, ground hns, ⟨mb, ground hb, hbb⟩, ⟨mc, ground c1, c2⟩⟩
  have e0 : Env0 P w K mg (hidT s₁.heap H) callerA [] s₁ H := ⟨rfl, hM, fun b o e => of_hidT e, Nat.le_of_eq (hidT_size _ _), trivial, fun b hb => absurd (show b ∈ ([] : List Addr) from hb) (by simp), hok, AllBare.of_eq hg⟩
  have hsp : spLaw K Fl [.ref a] H (fun v _ => v = .bl true) E0 := ⟨a, ns, rfl, hS, hF, fun _ => rfl⟩
  refine codeAny_mono ((F _ inB (ground hns)).run callerA [] s₁ H ⟨[.ref a], []⟩ [.ref a] [.ref a] _ _ rfl hr e0 (hbind s₁ (.ref a)) (.cons rfl .nil) hsp) fun r s' h => ?_
  match r, h with
  | .error e, h => exact False.elim h
  | .ok .next, h => exact False.elim h
  | .ok .brk, h => exact False.elim h
  | .ok .cont, h => exact False.elim h
  | .ok (.ret u), ⟨v, H', os, bare, un, hok', r', q⟩ =>
    have q' : v = .bl true := q
    subst q'
    obtain rfl : u = Value.bool true := r'
    refine ⟨rfl, OldK.of_keep fun b o e => ?_, os, bare⟩
    rcases only_cases (K := K) (a := a) (b := b) (vs := vs) (ns := ns) with h | ⟨rfl, _, h⟩
    · exact un.keep b o e h (by intro z; exact absurd (show b ∈ ([] : List Addr) from z) (by simp)) (by simp)
    · have z2 := un.frzs b _ _ h
      obtain ⟨e1, _⟩ := hok b _ h
      obtain ⟨e2, _⟩ := hok' b _ z2
      rw [e] at e1
      cases e1
      exact e2
/-- the goal that k_head leaves, from the law's promise over data -/
theorem walkG {l : PySem.W.OpenLaw} {n k : Nat} {q : Program} {loose : List Str} {XP : (Str → Option Value) → Heap → Prop} {YP : World → Heap → Prop} {d : DefRec} {K : Params → PySem.W.Frag} {Fl : List Int → Option Bool} {x : Str}
    (hn : l.most = some n) (hn2 : n ≤ sizeLine) (hdf : d.params.defaults = []) (hr : Room k callerA)
    (hY : ∀ (w : World) (h : Heap), YP w h → (K w.params).In h)
    (F : ∀ (w : World) (mg : Str → Option Value) (fa : Addr) (h : Heap), (K w.params).In h → h.Ns mainGlobals mg → mg d.name = some (.ref fa) →
      ∃ fd : FuncData, (∀ (s : Shared) (u : Value), BindsTo s fd ⟨[u], []⟩ [(x, u)]) ∧
        ∀ base : Heap, (K w.params).In base → base.Ns mainGlobals mg → FnG l.prog w (K w.params) mg base CX0 k fa fd [x] (spLaw (K w.params) Fl))
    (hF : ∀ ns : List Int, ns.length ≤ n → Fl ns = some true) :
    PySem.W.WalkO q loose XP YP l.row.toRowW d [] (fun f vs => PySem.call f vs) := by
  refine Att.attach_call hn hdf fun w s₀ s₁ mg mb fa o pm cd doc a vs ns G Y ho hd hcd hmg hobj hints hlen hg => ?_
  obtain ⟨fd, hb, hG⟩ := F w mg fa _ (hY w _ Y) G.T.g hmg
  exact law_callG (hY w _ Y) G.T.g G.T.b G.T.builtins G.T.nolimit hg hobj hints (Nat.le_trans hlen hn2) hr hG hb (hF ns hlen)
end
end DD
set_option Elab.async false
set_option linter.all false
set_option maxRecDepth 100000
set_option maxHeartbeats 4000000
/-! DD: more operators: tuple times int, is with a truth value, str of None. -/
namespace DD
open PySem PySem.Spec PyProof.Rows L2
theorem tuple_mul1 (l : Addr) (items : Array Value) (n : Nat) (dd : Option Addr) (sl : Array (Option Value)) (u : Tok) :
    Meets (Builtin.«tuple.__mul__» ⟨[.ref l, .int 1 u], []⟩) (fun _ R s => s.heap.get? l = some { cls := .type "tuple", dict := dd, data := .seq items n, slots := sl } ∧
      R (.ok (.ret (Value.ref l))) s) :=
  .of_wp fun prog w A R s h => by
    obtain ⟨hp, g, d, tk, os⟩ := s
    obtain ⟨hl, h⟩ := h
    have f1 := AutoSeq1.idx_int
    have c0 : (decide ((1 : Int) < -(2 ^ 63)) || decide ((1 : Int) ≥ 2 ^ 63)) = false := by decide
    have c1 : (items.isEmpty || (1 : Int) == 1) = true := by simp
    wp_walk using wpAny_loadPart' hl
    repeat (first
      | (refine wpAny_ite_false (decide_eq_false (by rw [c0]; exact Bool.false_ne_true)) ?_; wp_walk using wpAny_loadPart' hl)
      | (refine wpAny_ite_true (decide_eq_true c1) ?_; wp_walk using wpAny_loadPart' hl))
    exact ⟨_, rfl, h⟩
section
variable {X : Cx}
theorem op_repT1 : OpR X (binaryOp .Mult) (fun x y H Q => ∃ l xs, x = .ref l ∧ y = .int 1 ∧ SqT X.K H l xs ∧ Q (.ref l) H) := by
  intro pins s σ H x y v u Q I rx ry h
  obtain ⟨l, xs, rfl, rfl, hT, q⟩ := h
  cases rx
  obtain ⟨t, rfl⟩ := ry
  obtain ⟨its, r, ⟨⟨cls, dd, data, sl⟩, ho, hc, n, hd⟩, hs⟩ := I.tuple hT
  simp only at hc hd
  subst hc hd
  refine wpAny_binaryOp_repeat_ref (T := "tuple") (U := "int") (by decide) ⟨_, ho, rfl⟩ (fun s' => typeIs_int s' 1 t) noFill_tuple_mul F.fills_int_mul F.slot_int_rmul repeat_tuple F.slot_int_index.lookup
    (call_meets F.slot_int_rmul (typeIs_int s 1 t) F.entry_int_rmul (F.args_int_rmul_2 _ _) (int_rmul_tuple 1 t l its.toArray n dd sl)
      ⟨ho, rfl, ⟨_, ho, rfl⟩, call_meets F.slot_tuple_mul ⟨_, ho, rfl⟩ F.entry_tuple_mul (F.args_tuple_mul_2 _ _) (tuple_mul1 l its.toArray n dd sl t) ⟨ho, ?_⟩⟩)
  exact ⟨.ref l, H, I, rfl, q⟩
def mulTD : D → D → Option A
  | .tuple (x :: xs), .int k => if k = 1 then some (.dat (.tuple (x :: xs))) else if 2 ≤ k ∧ k ≤ 1000 ∧ (x :: xs).length ≤ 1000 then some (.dat (.tuple (List.replicate k.toNat (x :: xs)).flatten)) else none
  | _, _ => none
theorem op_mulTD : OpR X (binaryOp .Mult) (rO X.K mulTD) := by
  intro pins s σ H x y v u Q I rx ry ⟨T, d, e, r, hx, hy, ht, ho, q⟩
  unfold mulTD at ho
  split at ho
  · cases hy.int
    obtain ⟨p, xs, rfl, hp, hd⟩ := hx.tup
    split at ho
    · rename_i hk
      subst hk
      cases ho
      exact op_repT1 pins s σ H _ _ v u Q I rx ry ⟨p, xs, rfl, rfl, Evl.ex_t out_ex hp, q _ H (Ex.refl _) (.tup hp hd)⟩
    · split at ho
      · rename_i hk
        cases ho
        refine op_repT pins s σ H _ _ v u Q I rx ry ⟨p, _, xs, rfl, rfl, Evl.ex_t out_ex hp, ?_, hk.1, hk.2.1, by rw [hd.length]; exact hk.2.2, fun z hz => q _ _ (Ex.new hz) (dd_newT hz (ht z hz) (hd.rep _))⟩
        rintro rfl
        cases hd
      · cases ho
  · cases ho
def isntB : D → D → Option A
  | .bool a, .bool b => some (blA (!decide (a = b)))
  | _, _ => none
theorem op_isntB : OpR X (compareOp .IsNot) (rO X.K isntB) := by
  intro pins s σ H x y v u Q I rx ry ⟨T, d, e, r, hx, hy, ht, ho, q⟩
  unfold isntB at ho
  split at ho
  · cases ho; cases hx.bl; cases hy.bl
    exact op_isnot_bl pins s σ H _ _ v u Q I rx ry ⟨_, _, rfl, rfl, q _ H (Ex.refl _) (.bl _)⟩
  · cases ho
def isB : D → D → Option A
  | .bool a, .bool b => some (blA (decide (a = b)))
  | _, _ => none
theorem op_isB : OpR X (compareOp .Is) (rO X.K isB) := by
  intro pins s σ H x y v u Q I rx ry ⟨T, d, e, r, hx, hy, ht, ho, q⟩
  unfold isB at ho
  split at ho
  · cases ho; cases hx.bl; cases hy.bl
    exact op_is_bl pins s σ H _ _ v u Q I rx ry ⟨_, _, rfl, rfl, q _ H (Ex.refl _) (.bl _)⟩
  · cases ho
theorem call_str_none : CallR X (.type "str") (fun xs H Q => xs = [.non] ∧ Q (.str "None") H) := by
  intro pins s σ H xs us Q I r h
  obtain ⟨rfl, q⟩ := h
  obtain ⟨u, rfl, r1⟩ := vals1 r
  cases r1
  exact PySem.P.str_of_none ⟨.str _, H, I.tok _, ⟨_, rfl⟩, q⟩
def strND : List D → Option A
  | [.int i] => if i.natAbs < 1000000 then some (.dat (.str (toString i))) else none
  | [.none] => some (.dat (.str "None"))
  | [.str x] => some (.dat (.str x))
  | _ => none
theorem call_strND : CallR X (.type "str") (rC X.K strND) := by
  intro pins s σ H xs us Q I r ⟨T, ds, a, hx, ht, ho, q⟩
  unfold strND at ho
  split at ho
  · split at ho
    · cases ho
      cases hx with
      | cons hx hn =>
        cases hn
        cases hx.int
        exact call_str_int pins s σ H _ us Q I r ⟨_, rfl, log2_small (by assumption), q _ H (Ex.refl _) (.str _)⟩
    · cases ho
  · cases ho
    cases hx with
    | cons hx hn =>
      cases hn
      cases hx.non
      exact call_str_none pins s σ H _ us Q I r ⟨rfl, q _ H (Ex.refl _) (.str _)⟩
  · cases ho
    cases hx with
    | cons hx hn =>
      cases hn
      cases hx.str
      exact SkE.call_str_str pins s σ H _ us Q I r ⟨_, rfl, q _ H (Ex.refl _) (.str _)⟩
  · cases ho
end
end DD
set_option Elab.async false
set_option linter.all false
set_option maxRecDepth 100000
set_option maxHeartbeats 4000000
/-! DD: enumerate of a tuple. -/
namespace DD
open PySem PySem.Spec PyProof.Rows L2
open AutoSeq1 (wpAny_loadPart')
section
variable {prog : Program} {w : World} {A : Around} {E : Value → Shared → Prop} {s : Shared}
theorem tnext_item {it tp : Addr} {i : Nat} {items : Array Value} {x : Value} {Q : Value → Shared → Prop} (hit : s.heap.IsTupleIter it tp i) (hl : s.heap.IsTuple tp items) (hx : items[i]? = some x)
    (hQ : ∀ h', h'.IsTupleIter it tp (i + 1) → Heap.SameBut it s.heap h' → Q x { s with heap := h' }) : wpAny (model prog w) A (Builtin.SmallTypes.nextOf (.ref it)) Q E s := by
  obtain ⟨o1, go, gc, gd⟩ := id hit
  obtain ⟨o2, go2, _, n2, gd2⟩ := hl
  unfold Builtin.SmallTypes.nextOf
  refine wpAny_bind (wpAny_callSpecial?_slot (name := Str.ofString "__next__") hit.typeIs F.slot_tuple_iterator_next (wpAny_call_entry F.slot_tuple_iterator_next hit.typeIs F.entry_tuple_iterator_next ?_ (F.args_tuple_iterator_next_1 _)))
  show wpAny _ _ (field (.ref it) 0 >>= _) _ _ s; refine wpAny_bind (wpAny_field go gd (x := .ref tp) rfl ?_)
  show wpAny _ _ (if (Value.ref tp == Value.none) = true then _ else _) _ _ s; rw [if_neg (show ¬ ((Value.ref tp == Value.none) = true) from Bool.false_ne_true)]
  show wpAny _ _ (field (.ref it) 1 >>= _) _ _ s; refine wpAny_bind (wpAny_field go gd (x := .int i 0) rfl ?_)
  show wpAny _ _ (seqItems? (.ref tp) >>= _) _ _ s; refine wpAny_bind (wpAny_seqItems go2 gd2 ?_)
  simp only [hx, Int.toNat_natCast]
  refine wpAny_bind (wpAny_setField go gd (by simp) (wpAny_pure ⟨x, rfl, wpAny_pure (hQ _ ?_ (Heap.SameBut.update ..))⟩)); refine ⟨_, Heap.get?_update_self _ go (Obj.isFreed_of_fields (Obj.data_mapFields gd _)), (Obj.cls_mapFields ..).trans gc, ?_⟩
  rw [Obj.data_mapFields gd]
  simp [rawInt]
theorem tnext_end {it tp : Addr} {i : Nat} {items : Array Value} {Q : Value → Shared → Prop} (hh : A.handled = none) (hit : s.heap.IsTupleIter it tp i) (hl : s.heap.IsTuple tp items) (hx : items[i]? = none)
    (hE : ∀ h' e, Heap.ExtBut it s.heap h' → (∃ o, h'.get? e = some o ∧ o.cls = .type "StopIteration") → E (.ref e) { s with heap := h' }) : wpAny (model prog w) A (Builtin.SmallTypes.nextOf (.ref it)) Q E s := by
  obtain ⟨o1, go, gc, gd⟩ := id hit
  obtain ⟨o2, go2, _, n2, gd2⟩ := hl
  unfold Builtin.SmallTypes.nextOf
  refine wpAny_bind (wpAny_callSpecial?_slot (name := Str.ofString "__next__") hit.typeIs F.slot_tuple_iterator_next (wpAny_call_entry F.slot_tuple_iterator_next hit.typeIs F.entry_tuple_iterator_next ?_ (F.args_tuple_iterator_next_1 _)))
  show wpAny _ _ (field (.ref it) 0 >>= _) _ _ s; refine wpAny_bind (wpAny_field go gd (x := .ref tp) rfl ?_)
  show wpAny _ _ (if (Value.ref tp == Value.none) = true then _ else _) _ _ s; rw [if_neg (show ¬ ((Value.ref tp == Value.none) = true) from Bool.false_ne_true)]
  show wpAny _ _ (field (.ref it) 1 >>= _) _ _ s; refine wpAny_bind (wpAny_field go gd (x := .int i 0) rfl ?_)
  show wpAny _ _ (seqItems? (.ref tp) >>= _) _ _ s; refine wpAny_bind (wpAny_seqItems go2 gd2 ?_)
  simp only [hx, Int.toNat_natCast]
  refine wpAny_bind (wpAny_rule (wpAny_bind (wpAny_setField go gd (by simp) ?_)))
  show wpAny _ _ (newExc (.type "StopIteration") [] >>= _) _ _ _; refine wpAny_bind ?_
  simp only [newExc, newTuple]; refine wpAny_bind (wpAny_newObj_type ?_ (by size_fits))
  refine wpAny_bind (m := firstArgMember _ _) (wpAny_of_eq (a := Value.none) (by first | (simp only [firstArgMember]; rfl) | rfl) ?_); refine wpAny_newObj_type ?_ (by size_fits)
  simp only [raiseNew]; refine wpAny_bind (wpAny_handled ?_)
  first | rw [hh] | rw [show A.in1.handled = none from hh]
  refine wpAny_bind (wpAny_pure (wpAny_throw ?_)); exact hE _ _ (((Heap.SameBut.update ..).extBut.push _).push _) ⟨_, Heap.get?_push_size _ rfl, rfl⟩
end
theorem tdraws {prog : Program} {w : World} {A : Around} (hh : A.handled = none) (it tp : Addr) (hne : tp ≠ it) (items : Array Value) : Draws prog w A it [it, tp] items.size (fun i v => items[i]? = some v) (fun i h => h.IsTupleIter it tp i ∧ h.IsTuple tp items) where
  live := fun _ _ st => by obtain ⟨⟨o, ho, _⟩, _⟩ := st; exact ⟨o, ho⟩
  frame := fun _ _ _ st hk => ⟨st.1.at fun o e => hk it (by simp) o e, by obtain ⟨o, ho, r⟩ := st.2; exact ⟨o, hk tp (by simp) o ho, r⟩⟩
  item := fun i s Q E hi st hQ => tnext_item st.1 st.2 (x := items[i]) (by simp [hi]) fun h' a b => hQ _ h' s.toks (by simp [hi]) ⟨a, st.2.extBut b.extBut hne⟩ b
  done := fun s Q E st hE => tnext_end hh st.1 st.2 (by simp) hE
theorem meets_enumT (l : Addr) (items : Array Value) (n : Nat) (dct : Option Addr) (sl : Array (Option Value)) :
    Meets (Builtin.«enumerate.__new__» ⟨[.type "enumerate", .ref l], []⟩) (fun _ R s => s.heap.get? l = some { cls := .type "tuple", dict := dct, data := .seq items n, slots := sl } ∧
      R (.ok (.ret (.ref (s.heap.push { cls := .type "tuple_iterator", data := .fields #[.ref l, .int 0 0] }).objs.size)))
        { s with heap := (s.heap.push { cls := .type "tuple_iterator", data := .fields #[.ref l, .int 0 0] }).push { cls := .type "enumerate", data := .fields #[.none, .bool false, .ref s.heap.objs.size, rawInt 0, .none, .none] } }) :=
  .of_wp fun prog w A R s h => by
    obtain ⟨hp, g, d, tk, os⟩ := s
    obtain ⟨hl, h⟩ := h
    have hsub := sub_enumerate
    have hT : Heap.IsTuple (Shared.heap ⟨hp, g, d, tk, os⟩) l items := ⟨_, hl, rfl, n, rfl⟩
    wp_walk using wpAny_loadPart' hl
    refine wpAny_stack_any fun st => wpAny_pure ?_
    split
    · rename_i c _ _ _ _ _
      cases (c == Value.type "enumerate") <;> (wp_walk using wpAny_loadPart' hl, wpAny_pyIter_tuple hT; exact ⟨_, rfl, h⟩)
    · wp_walk using wpAny_loadPart' hl, wpAny_pyIter_tuple hT
      exact ⟨_, rfl, h⟩
section
variable {prog : Program} {w : World} {A : Around} {E : Value → Shared → Prop} {s : Shared}
theorem call_enumT {l : Addr} {items : Array Value} {Q : Value → Shared → Prop} (hL : s.heap.IsTuple l items)
    (h : ∀ h', IsEnum h' (s.heap.objs.size + 1) s.heap.objs.size 0 .none → h'.IsTupleIter s.heap.objs.size l 0 → h'.objs.size = s.heap.objs.size + 2 → (∀ b o, s.heap.get? b = some o → h'.get? b = some o) → Q (.ref (s.heap.objs.size + 1)) { s with heap := h' }) :
    wpAny (model prog w) A (call (.type "enumerate") [.ref l]) Q E s := by
  obtain ⟨⟨c, dct, dt, sl⟩, hl, hc, n, hd⟩ := hL
  have hc' : c = .type "tuple" := hc
  have hd' : dt = .seq items n := hd
  subst hc' hd'
  refine callType_new F.called_enumerate (by decide) (F.typeCall_enumerate_1 _) (F.newCall_enumerate_1 _) (fun obj => F.args_object_init_2 obj _) F.entry_enumerate_new (meets_enumT l items n dct sl) ⟨hl, ?_⟩
  have hz : (s.heap.push { cls := .type "tuple_iterator", data := .fields #[.ref l, .int 0 0] }).objs.size = s.heap.objs.size + 1 := Heap.size_push ..
  show _ ∧ _
  rw [hz]
  have he : IsEnum ((s.heap.push { cls := .type "tuple_iterator", data := .fields #[.ref l, .int 0 0] }).push { cls := .type "enumerate", data := .fields #[.none, .bool false, .ref s.heap.objs.size, rawInt 0, .none, .none] }) (s.heap.objs.size + 1) s.heap.objs.size 0 .none := by
    have t := Heap.get?_push_size (s.heap.push { cls := .type "tuple_iterator", data := .fields #[.ref l, .int 0 0] }) (o := { cls := .type "enumerate", data := .fields #[.none, .bool false, .ref s.heap.objs.size, rawInt 0, .none, .none] }) rfl
    rw [hz] at t
    exact t
  exact ⟨⟨_, he, rfl⟩, h _ he ⟨_, Heap.get?_push_of_some _ (Heap.get?_push_size _ rfl), rfl, rfl⟩ (by rw [Heap.size_push, hz]) fun b o x => Heap.get?_push_of_some _ (Heap.get?_push_of_some _ x)⟩
theorem enumT_end {e it l : Addr} {i : Nat} {items : Array Value} {old : Value} {Q : Option Value → Shared → Prop} (hh : A.handled = none) (he : IsEnum s.heap e it i old) (hit : s.heap.IsTupleIter it l i) (hl : s.heap.IsTuple l items) (hx : items[i]? = none)
    (hQ : ∀ h', Heap.ExtBut it s.heap h' → Q none { s with heap := h' }) : wpAny (model prog w) A (pyNext (.ref e)) Q E s := by
  have ht : s.TypeIs (.ref e) "enumerate" := ⟨_, he, rfl⟩
  unfold pyNext
  refine wpAny_bind (wpAny_attempt (wpAny_callSpecial?_slot (name := Str.ofString "__next__") ht F.slot_enumerate_next (wpAny_call_entry F.slot_enumerate_next ht F.entry_enumerate_next ?_ (F.args_enumerate_next_1 _))))
  show wpAny _ _ (field (.ref e) 2 >>= _) _ _ _; refine wpAny_bind (wpAny_field he rfl (x := .ref it) rfl ?_)
  refine wpAny_bind (tnext_end hh hit hl hx fun h' x q1 ⟨o, ho, hc⟩ => ?_)
  exact wpAny_bind (wpAny_isInstance (T := "StopIteration") (b := true) ⟨o, ho, hc⟩ isSubtype_stop (wpAny_pure (hQ _ q1)))
end
def IteT (K : PySem.W.Frag) (a : Addr) : It :=
  ⟨fun i H => ∃ (xs : List V) (x : V), SqT K H a xs ∧ xs[i]? = some x, fun i H v H' => ∃ T x, v = .ref T ∧ H T = none ∧ H' = upd H T (.tup [.int (i : Nat), x]) ∧ ∀ xs, SqT K H a xs → xs[i]? = some x, fun i H => ∃ xs : List V, SqT K H a xs ∧ xs.length ≤ i⟩
theorem turn_enumT {P : Program} {w : World} {K : PySem.W.Frag} {elts : List Expr} {kk : Nat} {tpos : Pos} (a e it : Addr) (hai : a ≠ it) (hae : e ≠ a) :
    Turn P w K (.Tuple elts kk tpos) (IteT K a) [e, it] e (fun i h => (∃ old, IsEnum h e it ((i : Nat) : Int) old) ∧ h.IsTupleIter it a i ∧ e ≠ it) where
  mem := by simp
  obj := fun i h st b hb => by
    obtain ⟨⟨old, he⟩, ⟨o, ho, hc, hd⟩, _⟩ := st
    have e' : b = e ∨ b = it := by simpa using hb
    rcases e' with rfl | rfl
    · exact ⟨_, he, fun v q => nomatch q⟩
    · exact ⟨o, ho, fun v q => by rw [hd] at q; cases q⟩
  keep := fun i h h' st k => by
    obtain ⟨⟨old, he⟩, hi, hne⟩ := st
    exact ⟨⟨old, k e (by simp) _ he⟩, hi.at fun o q => k it (by simp) o q, hne⟩
  item := by
    intro X hP hw hK hc i pins s σ H E I hf st hg
    subst hP hw hK
    obtain ⟨⟨old, he⟩, hit, hne⟩ := st
    obtain ⟨xs, x, hq, hx⟩ := hg
    obtain ⟨its, rv, p, hz⟩ := I.tuple hq
    obtain ⟨u, hu, ru⟩ := rv.get hx
    have hel : e < s.heap.objs.size := Heap.lt_size he
    have hil : it < s.heap.objs.size := by obtain ⟨_, q, _⟩ := hit; exact Heap.lt_size q
    have hD := tdraws (prog := X.prog) (w := X.w) (A := X.A.in1) (I.ok.hd hc) it a hai its.toArray
    have hi : i < its.toArray.size := by
      have := (List.getElem?_eq_some_iff.mp hu).1
      simpa using this
    refine wpAny_pyNext_enum_itemD hD he ⟨hit, p⟩ hi hne (by simp [hne, hae]) fun y h' tk hP ho hs' hT hsz hk => ?_
    have hyu : y = u := by
      have h1 : its[i]? = some y := by simpa using hP
      rw [hu] at h1
      exact (Option.some.inj h1).symm
    subst hyu
    refine ⟨_, rfl, wpAny_letOwnedTupleGo_enum (s := { s with heap := h', toks := tk + 1 }) ho fun h'' he' sb => ?_⟩
    have hT2 : h''.get? s.heap.objs.size = some { cls := .type "tuple", data := .seq #[.int i tk, y] } := (sb.2 _ (Nat.ne_of_gt hel)).trans hT
    have new : ObjOk X.prog X.w (upd H s.heap.objs.size (.tup [.int (i : Nat), x])) h'' s.heap.objs.size (.tup [.int (i : Nat), x]) := ⟨by show 2 ≤ sizeLine; decide, [.int i tk, y], .cons ⟨_, rfl⟩ (.cons ru .nil), ⟨_, hT2, rfl, _, rfl⟩⟩
    have I1 : Inv X pins σ (upd H s.heap.objs.size (.tup [.int (i : Nat), x])) { s with heap := h'', toks := tk + 1 } :=
      I.turnedNew (ch := [e, it]) (fun b ob hb q => (sb.2 b (fun z => hb (by simp [z]))).trans (hk b ob (fun z => hb (by simp [z])) (fun z => hb (by simp [z])) q)) hf (Nat.le_refl _) new
    refine ⟨.ref s.heap.objs.size, _, I1, rfl, ⟨_, x, rfl, I.hok.fresh (Nat.le_refl _), rfl, fun ys hy => by rw [I.tuple_inj hy hq]; exact hx⟩, ⟨⟨y, ?_⟩, hs'.1.at fun o q => (sb.2 it (Ne.symm hne)).trans q, hne⟩, fun b hb => ?_⟩
    · rw [show ((i + 1 : Nat) : Int) = (i : Int) + 1 by omega]; exact he'
    · have hb' : b < s.heap.objs.size := by
        have e' : b = e ∨ b = it := by simpa using hb
        rcases e' with rfl | rfl
        · exact hel
        · exact hil
      rw [upd_ne (Nat.ne_of_lt hb')]
      exact (hf b hb).1
  done := by
    intro X hP hw hK hc i pins s σ H E I hf st hg
    subst hP hw hK
    obtain ⟨⟨old, he⟩, hit, hne⟩ := st
    obtain ⟨xs, hq, hx⟩ := hg
    obtain ⟨its, rv, p, hz⟩ := I.tuple hq
    obtain ⟨f0, f1, f2, f3, f4, f5⟩ := hf it (by simp)
    have hl := rv.length
    exact enumT_end (I.ok.hd hc) he hit p (by simp; omega) fun h' eb => ⟨rfl, I.turned (t' := s.toks) (fun b o hb q => eb b o hb q) f0 f1 f3 f4 f5⟩
  self := fun A i s Q E st h => by
    obtain ⟨⟨_, he⟩, _⟩ := st
    exact wpAny_pyIter_enum he h
/-- the pairs of enumerate -/
def enumItems (ds : List D) : List D := ds.zipIdx.map fun p => .tuple [.int (p.2 : Nat), p.1]
theorem enumItems_get {ds : List D} {i : Nat} {d : D} (e : (enumItems ds)[i]? = some d) : ∃ x, ds[i]? = some x ∧ d = .tuple [.int (i : Nat), x] := by
  unfold enumItems at e
  rw [List.getElem?_map, Option.map_eq_some_iff] at e
  obtain ⟨⟨x, j⟩, e1, rfl⟩ := e
  rw [List.getElem?_zipIdx, Option.map_eq_some_iff] at e1
  obtain ⟨y, e2, e3⟩ := e1
  cases e3
  exact ⟨_, e2, by simp⟩
theorem enumItems_len (ds : List D) : (enumItems ds).length = ds.length := by unfold enumItems; simp
theorem Src.enumT {K : PySem.W.Frag} {T : List Addr} {H : Hp} {a : Addr} {xs : List V} {ds : List D} (h : SqT K (out T H) a xs) (hd : DdAll K (out T H) xs ds) : Src K T H (IteT K a) (enumItems ds) none := by
  have st : ∀ {T' : List Addr} {H' : Hp}, Fr T H T' H' → SqT K H' a xs := fun f => Evl.ex_t out_ex (Evl.ex_t f.out h)
  refine ⟨fun T' io' H' i d f i1 _ e => ?_, fun T' io' H' i f _ _ hl => ⟨xs, st f, by rw [hd.length, ← enumItems_len]; exact hl⟩⟩
  obtain ⟨d0, e0, rfl⟩ := enumItems_get e
  obtain ⟨v, h1, h2⟩ := hd.get e0
  refine ⟨⟨xs, v, st f, h1⟩, fun x H'' hy => ?_⟩
  obtain ⟨T0, y, rfl, n0, rfl, hx⟩ := hy
  have hx' := hx xs (st f)
  rw [h1] at hx'
  cases hx'
  have nt : T0 ∉ T' := fun z => by
    obtain ⟨k, hk⟩ := List.getElem?_of_mem z
    obtain ⟨es, zs, w1, w2, _⟩ := i1.at_ k T0 hk
    rw [n0] at w2
    cases w2
  exact ⟨Ex.new n0, dd_newT n0 nt (.cons (.int _) (.cons (h2.mono f.out) .nil))⟩
def dItE (g : DA) : DI := fun sl io => (g sl io).bind fun p => match p.1 with
  | [.dat (.tuple ds)] => some ((enumItems ds, none), p.2)
  | _ => none
def iEnumT (K : PySem.W.Frag) (ta : TA) : TI := fun σ H R => ta σ H fun vs H1 => ∃ a xs, vs = [.ref a] ∧ SqT K H1 a xs ∧ R (IteT K a) H1
theorem pi_enumT {X : Cx} {e : Expr} {ta : TA} {p pos tpos : Pos} {elts : List Expr} {kk : Nat} (hg : Gl X "enumerate") (hm : X.mg "enumerate" = none) (ha : PA X [e] ta) (hs : starEach [e] X.env = [(false, eval e X.env)] := by rfl) :
    PI X (.Tuple elts kk tpos) (.Call (.Name "enumerate" p) [e] [] pos) (iEnumT X.K ta) := by
  refine ⟨fun pins s σ H R I h => Call_ (ld_blt I hg hm boot_enumerate (PyProof.Rows.callWith_type1 (thn (ha.run pos pins s σ H _ I h) fun us s1 ⟨vs, H1, I1, r1, a, xs, ex, hq, q⟩ => ?_) hs rfl))⟩
  subst ex
  cases r1 with
  | cons r rr =>
    cases rr
    cases r
    obtain ⟨its, rv, p', hz⟩ := I1.tuple hq
    have hlt : a < s1.heap.objs.size := by obtain ⟨o, ho, _⟩ := p'; exact Heap.lt_size ho
    refine call_enumT p' fun h' he hit hsz hk => wpAny_pyIter_enum he ?_
    have I2 : Inv X pins σ H1 { s1 with heap := h' } := I1.kept (t' := s1.toks) hk
    refine ⟨s1.heap.objs.size + 1, [s1.heap.objs.size + 1, s1.heap.objs.size], _, _, H1, rfl, I2, turn_enumT a (s1.heap.objs.size + 1) s1.heap.objs.size (Nat.ne_of_lt hlt) (Nat.ne_of_gt (Nat.lt_succ_of_lt hlt)), ⟨⟨.none, he⟩, hit, Nat.succ_ne_self _⟩, fun b hb => ?_, q⟩
    have hle : s1.heap.objs.size ≤ b := by
      have e' : b = s1.heap.objs.size + 1 ∨ b = s1.heap.objs.size := by simpa using hb
      rcases e' with z | z <;> rw [z]
      · exact Nat.le_add_right _ _
      · exact Nat.le_refl _
    exact I1.fpOk hle (I1.hok.fresh hle)
theorem pdi_enum {X : Cx} {a : Expr} {g : DA} {p pos tpos : Pos} {elts : List Expr} {kk : Nat} (hg : Gl X "enumerate") (hm : X.mg "enumerate" = none) (ha : PA X [a] (tA X.K g)) (hs : starEach [a] X.env = [(false, eval a X.env)] := by rfl) :
    PI X (.Tuple elts kk tpos) (.Call (.Name "enumerate" p) [a] [] pos) (tI X.K (dItE g)) := PI.imp (pi_enumT hg hm ha hs) fun σ H R hh => by
  obtain ⟨T, sl, io, hR, items, c, io', e, q⟩ := hh
  unfold dItE at e
  simp only [Option.bind_eq_some_iff, Prod.exists] at e
  obtain ⟨as, io1, e1, e2⟩ := e
  split at e2
  · cases e2
    refine ⟨T, sl, io, hR, _, _, e1, fun vs H1 s1 i1 v1 => ?_⟩
    cases v1 with
    | cons h1 t1 =>
      cases t1
      obtain ⟨p, xs, rfl, w1, w2⟩ := VwOk.tup (.inl h1)
      exact ⟨p, xs, rfl, Evl.ex_t out_ex w1, q _ H1 s1 i1 (Src.enumT w1 w2)⟩
  · cases e2
end DD
set_option Elab.async false
set_option linter.all false
set_option maxRecDepth 100000
set_option maxHeartbeats 4000000
/-! DD: f-strings of two parts or more. -/
namespace DD
open PySem PySem.Spec PyProof.Rows L2
def dFmt (f : DE) : DE := fun sl io => (f sl io).bind fun p => match p.1 with
  | .dat (.str y) => if y.length ≤ LIM then some (.dat (.str y), p.2) else none
  | .dat (.int i) => if i.natAbs < 1000000 then some (.dat (.str (toString i)), p.2) else none
  | _ => none
def jsGo : List DE → Str → List S → IO → Option (Str × IO)
  | [], acc, _, io => some (acc, io)
  | f :: fs, acc, sl, io => (f sl io).bind fun p => match p.1 with
    | .dat (.str y) => if (acc ++ y).length ≤ LIM then jsGo fs (acc ++ y) sl p.2 else none
    | _ => none
def dFs (fs : List DE) : DE := fun sl io => (jsGo fs Str.empty sl io).map fun p => (.dat (.str p.1), p.2)
section
variable {X : Cx}
theorem pd_fmt {e : Expr} {f : DE} {pos : Pos} (he : PE X e (tE X.K f)) : PE X (.FormattedValue e (-1) none pos) (tE X.K (dFmt f)) := PE.imp (pe_fmt he) fun σ H Q hh => by
  obtain ⟨T, sl, io, hR, a, io', e, q⟩ := hh
  unfold dFmt at e
  simp only [Option.bind_eq_some_iff, Prod.exists] at e
  obtain ⟨b, io1, e1, e2⟩ := e
  refine one hR e1 fun x H1 s1 i1 v1 => ?_
  split at e2
  · split at e2
    · cases e2
      have h1 := VwOk.str (.inl v1)
      exact .inl ⟨_, h1, lim_le (by assumption), q _ H1 s1 i1 (.str _)⟩
    · cases e2
  · split at e2
    · cases e2
      have h1 := VwOk.int (.inl v1)
      exact .inr ⟨_, h1, log2_small (by assumption), q _ H1 s1 i1 (.str _)⟩
    · cases e2
  · cases e2
theorem js_run {K : PySem.W.Frag} {T : List Addr} {σ : L2.St} {sl : List S} {Q : Str → Hp → Prop} : ∀ (fs : List DE) (acc : Str) (io io' : IO) (H : Hp) (out : Str), Rel K T σ sl io H → jsGo fs acc sl io = some (out, io') →
    (∀ H', Stp T H H' → IoOk K T io' H' → Q out H') → tJs (fs.map (tE K)) acc σ H Q
  | [], acc, io, io', H, out, hR, e, q => by
    cases e
    exact q H (Stp.refl _ _) hR.io
  | f :: fs, acc, io, io', H, out, hR, e, q => by
    unfold jsGo at e
    simp only [Option.bind_eq_some_iff, Prod.exists] at e
    obtain ⟨b, io1, e1, e2⟩ := e
    refine one hR e1 fun x H1 s1 i1 v1 => ?_
    split at e2
    · split at e2
      · have h1 := VwOk.str (.inl v1)
        exact ⟨_, h1, lim_le (by assumption), js_run fs _ io1 io' H1 out (hR.step s1 i1) e2 fun H' s2 i2 => q H' (s1.trans s2) i2⟩
      · cases e2
    · cases e2
theorem pd_fs {v1 v2 : Expr} {rest : List Expr} {fs : List DE} {pos : Pos} (h : PJ X (v1 :: v2 :: rest) (fs.map (tE X.K))) : PE X (.JoinedStr (v1 :: v2 :: rest) pos) (tE X.K (dFs fs)) := PE.imp (pe_joined h) fun σ H Q hh => by
  obtain ⟨T, sl, io, hR, a, io', e, q⟩ := hh
  unfold dFs at e
  simp only [Option.map_eq_some_iff, Prod.exists, Prod.mk.injEq] at e
  obtain ⟨out, io1, e1, rfl, rfl⟩ := e
  exact js_run fs Str.empty io io1 H out hR e1 fun H' s1 i1 => q _ H' s1 i1 (.str _)
end
end DD
set_option Elab.async false
set_option linter.all false
set_option maxRecDepth 100000
set_option maxHeartbeats 4000000
/-! DD: exceptions that are kept behind their except clause. -/
namespace DD
open PySem PySem.Spec PyProof.Rows L2
theorem exH_ok {P : Program} {w : World} {H : Hp} {h : Heap} {a : Addr} {cls : Value} {d : Option Addr} {o : Obj} {vs : Array Value} (e : h.get? a = some o) (hz : Zc cls d o) (hd : o.data = .fields vs) : ObjOk P w H h a (exH a cls d) :=
  ⟨⟨o, vs, e, hz.1, hz.2, hd⟩, ⟨_, e⟩, fun h1 h2 z k => by
    obtain ⟨o', vs', e', r⟩ := z
    exact ⟨o', vs', k _ e', r⟩⟩
theorem exH_at {P : Program} {w : World} {H : Hp} {h : Heap} {a : Addr} {cls : Value} {d : Option Addr} (hok : HOk P w H h) (he : H a = some (exH a cls d)) : ∃ o vs, h.get? a = some o ∧ o.cls = cls ∧ o.dict = d ∧ o.data = .fields vs := by
  have x : ObjOk P w H h a (.ext fun h => ∃ o vs, h.get? a = some o ∧ o.cls = cls ∧ o.dict = d ∧ o.data = .fields vs) := hok a _ he
  exact x.1
section
variable {X : Cx} {pins : List (Addr × Obj)} {σ : L2.St} {H : Hp} {s : Shared} {a : Addr} {cls : Value} {d : Option Addr} {o : Obj} {vs : Array Value}
/-- a thing that came since the entry is tracked -/
theorem inv_adopt (I : Inv X pins σ H s) (ha : s.heap.get? a = some o) (hz : Zc cls d o) (hd : o.data = .fields vs) (na : H a = none) (nL : a ≠ X.env.locals) (new : X.s_0.heap.get? a = none) (np : ∀ p ∈ X.pn ++ pins, p.1 ≠ a) (nx : a ∉ X.ex) :
    Inv X pins σ (upd H a (exH a cls d)) s := by
  have nb : ∀ {b : Addr} {u : Obj}, X.s_0.heap.get? b = some u → b ≠ a := fun e z => by rw [z, new] at e; cases e
  have nh : ∀ {b : Addr} {u : HO}, H b = some u → b ≠ a := fun e z => by rw [z, na] at e; cases e
  obtain ⟨b1, b2, b3, b4, b5, b6, b7⟩ := I.base
  refine ⟨I.ok, I.os, I.bare, ⟨b1, b2, fun b u e n hx => ?_, b4, fun b xs e => ?_, fun b u xs e => ?_, fun b ps e => ?_⟩, I.loc, I.cell, ?_, fun x c e => ?_, fun p hp => ?_, fun b u e => ?_, I.len⟩
  · rw [upd_ne (nb e)]; exact b3 b u e n hx
  · have q := b5 b xs e
    rw [upd_ne (nh q)]; exact q
  · have q := b6 b u xs e
    rw [upd_ne (nh q)]; exact q
  · obtain ⟨more, q⟩ := b7 b ps e
    exact ⟨more, by rw [upd_ne (nh q)]; exact q⟩
  · rw [upd_ne (Ne.symm nL)]; exact I.free
  · obtain ⟨v, oc, hc, hv⟩ := I.cell x c e
    have : c ≠ a := fun z => by
      subst z
      rw [ha] at hc
      cases hc
      rw [hd] at hv
      cases hv
    rw [upd_ne this]; exact I.freeC x c e
  · obtain ⟨p1, p2, p3⟩ := I.pin p hp
    exact ⟨p1, by rw [upd_ne (np p hp)]; exact p2, p3⟩
  · by_cases hb : b = a
    · subst hb
      rw [upd_same] at e
      cases e
      exact exH_ok ha hz hd
    · rw [upd_ne hb] at e
      exact (I.hok b u e).stay (fun _ _ _ q => q) (fun c q => by rw [upd_ne (nh q)]; exact q) fun c xs q => by rw [upd_ne (nh q)]; exact q
end
/-- the wish of the clause 'except x as n': in the suite the exception is tracked; behind it slot i is empty -/
def wKeep (K : PySem.W.Frag) (c : Value) (i : Nat) (ts : Addr → Value → Option Addr → TS) (Wout : WX) (D : Ends) : WX := fun cls d σ H =>
  ∃ b, PySem.W.exmOne K cls c = some b ∧ (b = true → ∀ a, H a = none → ts a cls d { nx := fun σ' H' => D.nx (σ'.set i none) H', rt := D.rt, bk := fun σ' H' => D.bk (σ'.set i none) H', ct := fun σ' H' => D.ct (σ'.set i none) H' } (σ.set i (some (.ref a))) (upd H a (exH a cls d))) ∧
    (b = false → Wout cls d σ H)
theorem inv_suite {X : Cx} {pins : List (Addr × Obj)} {σ : L2.St} {H : Hp} {s : Shared} (I : Inv X pins σ H s) (a : Addr) : Inv (X.suite a (X.pn ++ pins)) [] σ H s :=
  ⟨I.ok.suite _ _, I.os, I.bare, I.base, I.loc, I.cell, I.free, I.freeC, fun p hp => I.pin p (by rw [List.append_nil] at hp; exact hp), I.hok, I.len⟩
theorem inv_unsuite {X : Cx} {pins : List (Addr × Obj)} {σ : L2.St} {H : Hp} {s : Shared} {a : Addr} (I : Inv (X.suite a (X.pn ++ pins)) [] σ H s) (ok : X.Ok) : Inv X pins σ H s :=
  ⟨ok, I.os, I.bare, I.base, I.loc, I.cell, I.free, I.freeC, fun p hp => I.pin p (List.mem_append_left _ hp), I.hok, I.len⟩
section
variable {X : Cx} {x n : Str} {c : Value} {i : Nat} {body suite : List Stmt} {st0 : Stmt} {np pos pos' : Pos} {tb : WX → TS} {ts : Addr → Value → Option Addr → TS} {Wout : WX}
theorem ps_try_keep (hs : X.stack = X.env :: X.outer) (hf : X.env.frame = some X.env.locals) (hN : X.N.Nodup) (hi : X.N[i]? = some n) (hln : X.env.kindOf n = some .local) (hc : Names X x c) (tk : Takes X Wout) (hex : X.ex = [])
    (hb : ∀ (W : WX) (pn : List (Addr × Obj)) (xe : Value → Shared → Prop), Takes (X.tr pn xe) W → PassesOwn (model X.prog X.w) X.A X.env xe → PSs (X.tr pn xe) body (tb W))
    (hsu : ∀ (a : Addr) (cls : Value) (d : Option Addr) (pn : List (Addr × Obj)), PSs (X.suite a pn) (st0 :: suite) (ts a cls d)) :
    PS X (.Try body [.ExceptHandler (some (.Name x np)) (some n) (st0 :: suite) pos'] [] [] pos) (fun D σ H => tb (wKeep X.K c i ts Wout D) D σ H) := by
  refine ⟨fun pins s σ H D I h => ?_⟩
  have okX := I.ok
  have hA : X.A.frames = some (X.env :: X.outer) := by rw [okX.frames, hs]
  have isloc : Loc X.env.scope n := .inl hln
  refine wpAny_Try_except (wpAny_mono ((hb (wKeep X.K c i ts Wout D) (X.pn ++ pins) (fun e z1 => wpAny (model X.prog X.w) X.A (noteFrame e X.env) (fun _ z2 => wpAny (model X.prog X.w) X.A (setFlight e none) (fun _ z3 => wpAny (model X.prog X.w) X.A (handleBy e X.env [.ExceptHandler (some (.Name x np)) (some n) (st0 :: suite) pos']) (SP X pins D) X.xe z3) X.xe z2) X.xe z1) (fun u s' caught => ?_) PassesOwn.looking).run [] s σ H D (I.toTry _) h) (fun f s1 hsp => ?_) (fun e s1 he => he))
  · obtain ⟨a, B, sI, pins', σ', H', cls, d, rfl, J0, nb, up, sky, na, os, ag, b, hb1, hyes, hno⟩ := caught
    have J : Inv X pins σ' H' sI := J0.ofTry okX
    have sky1 : Sky B (X.env :: X.outer) a (Zc cls d) X.env.locals s'.heap := by rw [← hs]; exact sky
    show wpAny (model X.prog X.w) X.A (noteFrame (.ref a) X.env) _ _ _; refine Sky.land Zc.steady hA hf sky1 fun g3 fly3 up3 => ?_
    have J3 : Inv X pins σ' H' { s' with heap := g3 } := J.landed nb fly3.1 (up.trans up3) os ag
    obtain ⟨ob3, ws3, at3, z3, dt3⟩ := fly3.there
    have apart : ∀ {g : Heap} {o : Obj} {ws : Array Value}, g.FunFrames B (X.env :: X.outer) → g.get? a = some o → o.data = .fields ws → a ∉ frs (X.env :: X.outer) := fun {g o ws} ff e dd hm => by
      obtain ⟨_, o', e', hnf⟩ := ff.mem hm; rw [e] at e'; cases e'; exact hnf _ dd
    have nofr := apart fly3.2.2.1 at3 dt3
    have noL : a ≠ X.env.locals := fun z => nofr (List.mem_filterMap.mpr ⟨X.env, List.mem_cons_self, by rw [hf, z]⟩)
    have noF : a ∉ X.fs := fun hm => by
      obtain ⟨e, he, q⟩ := List.mem_filterMap.mp hm; exact nofr (List.mem_filterMap.mpr ⟨e, List.mem_cons_of_mem _ he, q⟩)
    -- it came since the entry
    have notI : sI.heap.get? a = none := by
      cases q : sI.heap.get? a with
      | none => rfl
      | some o => have z := nb a o q (by rw [hs]; exact nofr); rw [fly3.2.1] at z; cases z
    have notE : X.s_0.heap.get? a = none := by
      cases q : X.s_0.heap.get? a with
      | none => rfl
      | some o => obtain ⟨o', z⟩ := J.base.there a o q (by rw [hex]; simp); rw [notI] at z; cases z
    have notP : ∀ p ∈ X.pn ++ pins, p.1 ≠ a := fun p hp z => by
      have q := (J.pin p hp).1; rw [z, notI] at q; cases q
    have S3 := J3.suite at3 dt3 na noL noF
    refine wpAny_handleBy_cons (codeAny_handlers_test ?_) (by intro q; cases q)
    have LT : PySem.W.Looks (model X.prog X.w) g3 (typeOf (.ref a)) cls := fun A Q E s k q => wpAny_typeOf_ref (k _ _ at3) (by rw [z3.1]; exact q)
    have LM := PySem.W.exm_one (M := model X.prog X.w) (J3.kIn) LT hb1
    have asked : ∀ {Q : Value → Shared → Prop} {E : Value → Shared → Prop}, Q c { s' with heap := g3 } → wpAny (model X.prog X.w) (X.A.mark (some (.ref a))) (eval (.Name x np) X.env) Q E { s' with heap := g3 } := fun {Q E} q => by
      obtain ⟨hg, hdbg, hm | ⟨hm, hv, hnn⟩⟩ := hc
      · exact ld_glob (X := X.suite a ((a, ob3) :: (X.pn ++ pins))) S3 hg hm q hdbg
      · exact ld_blt (X := X.suite a ((a, ob3) :: (X.pn ++ pins))) S3 hg hm hv q hnn hdbg
    refine asked (LM.here ?_)
    cases b with
    | true =>
      refine codeAny_handlers_suite_as (HandSPX.lands_againZ fly3 fun g4 fly4 up4 => ?_)
      have J4 : Inv X pins σ' H' { s' with heap := g4 } := J.landed nb fly4.1 ((up.trans up3).trans up4) os ag
      obtain ⟨ob4, ws4, at4, z4, dt4⟩ := fly4.there
      have A4 := inv_adopt J4 at4 z4 dt4 na noL notE notP (by rw [hex]; simp)
      refine store_ok (X := X.suite a (X.pn ++ pins)) (v := .ref a) (inv_suite A4 a) hN hi isloc rfl (fun s5 S5 => ?_) (.inr hln)
      refine wpAny_mono ((hsu a cls d (X.pn ++ pins)).run [] s5 _ _ _ S5 (hyes rfl a na)) (fun f s6 hsp => ?_) (fun _ _ z => False.elim z)
      have over : ∀ {σ6 : L2.St} {H6 : Hp} {Q : Shared → Prop}, Inv (X.suite a (X.pn ++ pins)) [] σ6 H6 s6 → (∀ s7, Inv X pins (σ6.set i none) H6 s7 → Q s7) → wpAny (model X.prog X.w) X.A (do bindName X.env n .none; unbindBehindTheSuite X.env n pos') (fun _ s7 => Q s7) X.xe s6 := fun {σ6 H6 Q} S6 hq =>
        gone_ok (inv_unsuite S6 okX) hN hi hln hq
      cases f with
      | next => obtain ⟨σ6, H6, S6, q6⟩ := hsp; exact over S6 fun s7 J7 => ⟨_, _, J7, q6⟩
      | brk => obtain ⟨σ6, H6, S6, q6⟩ := hsp; exact over S6 fun s7 J7 => ⟨_, _, J7, q6⟩
      | cont => obtain ⟨σ6, H6, S6, q6⟩ := hsp; exact over S6 fun s7 J7 => ⟨_, _, J7, q6⟩
      | ret u => obtain ⟨v6, σ6, H6, S6, r6, q6⟩ := hsp; exact over S6 fun s7 J7 => ⟨_, _, _, J7, r6, q6⟩
    | false =>
      show wpAny _ X.A (handleBy (.ref a) X.env []) _ _ _; refine wpAny_handleBy_nil ?_
      obtain ⟨k1, k2, k3, oe, ws, T, oT, ts', he, hz, hd, h1, hr⟩ := id fly3
      unfold PySem.passOn
      refine wpAny_bind (wpAny_field he hd h1 ?_); rw [if_neg (show ¬ ((Value.ref T == Value.none) = true) from by simp)]
      have out : wpAny (model X.prog X.w) X.A (setFlight (.ref a) X.env.frame) (fun _ s4 => wpAny (model X.prog X.w) X.A (throw (.ref a) : Sem Flow) (SP X pins D) X.xe s4) X.xe { s' with heap := g3 } := by
        rw [hf]; refine HandSPX.setFlight_upZ fly3 fun h4 hh4 up4 => wpAny_throw (tk _ _ ?_)
        exact ⟨a, B, sI, pins, σ', H', cls, d, rfl, J, nb, (up.trans up3).trans up4, .inr (.inr (by rw [hs]; exact hh4)), na, os, ag, hno rfl⟩
      first
        | exact wpAny_bind out
        | exact wpAny_bind (wpAny_pure (wpAny_bind out))
  · cases f with
    | next => obtain ⟨σ', H', J', q⟩ := hsp; exact wpAny_execs_nil ⟨σ', H', J'.ofTry okX, q⟩
    | brk => obtain ⟨σ', H', J', q⟩ := hsp; exact ⟨σ', H', J'.ofTry okX, q⟩
    | cont => obtain ⟨σ', H', J', q⟩ := hsp; exact ⟨σ', H', J'.ofTry okX, q⟩
    | ret u => obtain ⟨v, σ', H', J', r, q⟩ := hsp; exact ⟨v, σ', H', J'.ofTry okX, r, q⟩
end
/-! ### what is asked of a kept exception -/
/-- the dict of an exception, if it has one -/
def xdAt (H : Hp) : Option Addr → List (Str × V) → Prop
  | none, fs => fs = []
  | some dd, fs => H dd = some (.xd fs)
theorem instAt_of {P : Program} {w : World} {K : PySem.W.Frag} {H : Hp} {h : Heap} {a C : Addr} {d : Option Addr} {fs : List (Str × V)} (hok : HOk P w H h) (e : H a = some (exH a (.ref C) d)) (hd : xdAt H d fs) :
    ∃ oe od, PySem.W.InstAt h a oe C od := by
  obtain ⟨o, vs, h1, h2, h3, h4⟩ := exH_at hok e
  obtain ⟨c1, d1, t1, s1⟩ := o
  dsimp only at h2 h3 h4
  subst h2 h3 h4
  cases d1 with
  | none => exact ⟨_, none, h1, rfl, rfl, trivial⟩
  | some dd =>
    have hx : ObjOk P w H h dd (.xd fs) := hok dd _ hd
    obtain ⟨mA, hns, hr⟩ := hx
    obtain ⟨od, ho, hl⟩ := lookIn_ns hns
    exact ⟨_, some od, h1, rfl, rfl, ho⟩
/-- isinstance(e, c) of a kept exception -/
def rIsX (K : PySem.W.Frag) : List V → Hp → VK → Prop := fun xs H Q => ∃ (a C : Addr) (d : Option Addr) (fs : List (Str × V)) (c : V) (cv : Value) (b : Bool), xs = [.ref a, c] ∧ H a = some (exH a (.ref C) d) ∧ xdAt H d fs ∧ ExcC K C ∧ (∀ u, RelV c u → u = cv) ∧ PySem.W.kitOne K (.ref C) cv = some b ∧ Q (.bl b) H
theorem call_isX {X : Cx} : CallR X (.builtin "isinstance") (rIsX X.K) := by
  intro pins s σ H xs us Q I r h
  obtain ⟨a, C, d, fs, c, cv, b, rfl, ea, hd, T, hcv, e, q⟩ := h
  cases r with
  | cons rx rr =>
    cases rr with
    | cons rt rr =>
      cases rr
      cases rx
      have ec := hcv _ rt
      subst ec
      obtain ⟨oe, od, J⟩ := instAt_of (K := X.K) I.hok ea hd
      have hcl : (PySem.W.clsIn X.K C).isSome = true := by obtain ⟨cd, hc, _⟩ := PySem.W.any_some T.hd; rw [hc]; rfl
      exact PySem.W.kia_one (PySem.W.kitx_exc (od := od) hcl T.hg T.hk T.hs T.ha T.hn T.ht T.hm) I.kIn J e (fun z => nomatch z) fun tk => ⟨.bl b, H, I.kept (t' := tk) fun _ _ z => z, rfl, q⟩
/-- e.n of a kept exception -/
def tXfH (K : PySem.W.Frag) (n : Str) (te : TE) : TE := fun σ H Q => te σ H fun x H1 => ∃ (a C dd : Addr) (fs : List (Str × V)) (v : V), x = .ref a ∧ H1 a = some (exH a (.ref C) (some dd)) ∧ H1 dd = some (.xd fs) ∧ XfC K C ∧ PySem.W.findIn K (.ref C) n = some none ∧ fs.lookup n = some v ∧ Q v H1
theorem pe_xfH {X : Cx} {e : Expr} {te : TE} {pos : Pos} {n : Str} (he : PE X e te) (hb : attributeBase e n X.env (eval e X.env) = eval e X.env := by rfl) : PE X (.Attribute e n pos) (tXfH X.K n te) := by
  refine ⟨fun pins s σ H Q I h => attr_of hb (thn (he.run pins s σ H _ I h) fun u s1 hh => ?_)⟩
  obtain ⟨x, H1, I1, rx, a, C, dd, fs, v, ex, ea, ed, T, hno, l, q⟩ := hh
  subst ex
  obtain rfl : u = Value.ref a := rx
  obtain ⟨o, vs, h1, h2, h3, h4⟩ := exH_at I1.hok ea
  have hx : ObjOk X.prog X.w H1 s1.heap dd (.xd fs) := I1.hok dd _ ed
  obtain ⟨mA, hns, hr⟩ := hx
  obtain ⟨od, ho, hl⟩ := lookIn_ns hns
  obtain ⟨u, hu, ru⟩ := RelO.some_of (v := v) (o := mA n) (by rw [← l]; exact hr n)
  have J : PySem.W.InstAt s1.heap a o C (some od) := ⟨h1, h2, by unfold PySem.W.notCls; rw [h4] <;> rfl, by rw [h3]; exact ho⟩
  exact HandSPX.exc_get I1.kIn J T.ga T.gg T.exC (PySem.W.findObj_own T.hdC hno rfl (by rw [hl, hu])) (handed_of ru) ⟨v, H1, I1.tok _, ru, q⟩
/-! ### the base's __init__, called by the base's name -/
theorem pe_ownInit {X : Cx} {ta : TA} {e : Expr} {es : List Expr} {x : Str} {C0 : Addr} {p1 p2 pos : Pos} {pl : Sem Bool} (hg : Gl X x) (hm : X.mg x = some (.ref C0)) (rd : PySem.W.readsIn X.K C0 (.type "type") = true) (sp : PySem.W.specialIn X.K (.ref C0) "__getattribute__" = some (some (.builtin "type.__getattribute__")))
    (vV : PySem.W.findCls X.K (.ref C0) (.type "type") "__init__" = some (.val (.builtin "ValueError.__init__"))) (ha : PA X (e :: es) ta) (hdb : (x == ("__debug__" : Str)) = false := by decide)
    (hc : eval (.Call (.Attribute (.Name x p1) "__init__" p2) (e :: es) [] pos) X.env = (do let ov ← eval (.Name x p1) X.env; standAt p2.atName; let (f, first) ← holding [ov] (getMethod ov "__init__" pl); callWith pos f first (backTo pos (starEach (e :: es) X.env)) (backToKw pos (keywordEach [] X.env))) := by rfl)
    (he : starEach (e :: es) X.env = (false, eval e X.env) :: starEach es X.env := by rfl) (hpl : (backTo pos (starEach es X.env)).any (·.1) = false := by rfl) :
    PE X (.Call (.Attribute (.Name x p1) "__init__" p2) (e :: es) [] pos) (tVeI X.K ta) := by
  refine ⟨fun pins s σ H Q I h => PySem.W.methodCall_KW (ld_glob I hg hm ?_ hdb) hc⟩
  refine PySem.W.method_cls I.kIn sp (PySem.W.cls_value I.kIn rd vV (by decide +kernel) ?_)
  show wpAny _ _ (callWith pos (Value.builtin "ValueError.__init__") [] (backTo pos (starEach (e :: es) X.env)) []) _ _ _
  refine PyProof.Rows.callWith_method1 (thn (ha.run pos pins _ σ H _ (I.tok _) h) fun us s1 ⟨vs, H1, I1, r1, a, C, ws, ev, hl, T, ea, q⟩ => ?_) he hpl
  subst ev
  cases r1 with
  | @cons _ u0 _ ur ra rw' =>
    obtain rfl : u0 = Value.ref a := ra
    exact oinit_ok T I1 ea (by rw [← Paired.length rw', sizeLine_eq]; omega) fun s' J => ⟨.non, H1, J, rfl, q⟩
end DD
set_option Elab.async false
set_option linter.all false
set_option maxRecDepth 100000
set_option maxHeartbeats 4000000
/-! DD: defs that may raise; try. -/
namespace DD
open PySem PySem.Spec PyProof.Rows L2
/-- an exception: its class by name, its one field -/
structure EX where
  cls : Str
  pay : Option (Str × D)
def exData : EX → D
  | ⟨n, none⟩ => .dict [(.str n, .none)]
  | ⟨n, some (f, v)⟩ => .dict [(.str n, .str f), (.str f, v)]
/-- the dict of an exception with such a field -/
def payAt (K : PySem.W.Frag) (H : Hp) : Option (Str × D) → Option Addr → Prop
  | none, d => d = none
  | some (f, v), d => ∃ dd x, d = some dd ∧ H dd = some (.xd [(f, x)]) ∧ Dd K H x v ∧ im v = true
def EOk (K : PySem.W.Frag) (H : Hp) (e : EX) (cv : Value) (d : Option Addr) : Prop := ∃ C : Addr, PySem.W.nsIn K mainGlobals e.cls = some (some (.ref C)) ∧ cv = .ref C ∧ payAt K H e.pay d
theorem payAt.mono {K : PySem.W.Frag} {H H' : Hp} (ex : Ex H H') {p : Option (Str × D)} {d : Option Addr} (h : payAt K H p d) : payAt K H' p d := by
  cases p with
  | none => exact h
  | some q => obtain ⟨f, v⟩ := q; obtain ⟨dd, x, e, h1, h2, h3⟩ := h; exact ⟨dd, x, e, ex _ _ h1, h2.mono ex, h3⟩
theorem EOk.mono {K : PySem.W.Frag} {H H' : Hp} (ex : Ex H H') {e : EX} {cv : Value} {d : Option Addr} (h : EOk K H e cv d) : EOk K H' e cv d := by
  obtain ⟨C, h1, h2, h3⟩ := h
  exact ⟨C, h1, h2, h3.mono ex⟩
theorem not_in {T : List Addr} {H : Hp} {a : Addr} {o : HO} (t : TL T H) (e : H a = some o) (h : ∀ xs, o ≠ .lst xs) : a ∉ T := fun hm => by
  obtain ⟨xs, q⟩ := t a hm
  rw [e] at q
  exact h xs (Option.some.inj q)
theorem EOk.outs {K : PySem.W.Frag} {T : List Addr} {H : Hp} (t : TL T H) {e : EX} {cv : Value} {d : Option Addr} (h : EOk K H e cv d) : EOk K (out T H) e cv d := by
  obtain ⟨C, h1, h2, h3⟩ := h
  refine ⟨C, h1, h2, ?_⟩
  obtain ⟨n, p⟩ := e
  cases p with
  | none => exact h3
  | some q =>
    obtain ⟨f, v⟩ := q
    obtain ⟨dd, x, e, h4, h5, h6⟩ := h3
    exact ⟨dd, x, e, by rw [out_not (not_in t h4 fun xs => fun z => nomatch z)]; exact h4, h5.imOut t h6, h6⟩
/-- the exception as data, kept at a -/
theorem EOk.kept {K : PySem.W.Frag} {T : List Addr} {H : Hp} {e : EX} {cv : Value} {d : Option Addr} {a : Addr} (t : TL T H) (h : EOk K (out T H) e cv d) (na : H a = none) : Dd K (out T (upd H a (exH a cv d))) (.ref a) (exData e) := by
  obtain ⟨C, h1, rfl, h3⟩ := h
  have aT : a ∉ T := fun hm => by obtain ⟨xs, q⟩ := t a hm; rw [na] at q; cases q
  have ea : out T (upd H a (exH a (.ref C) d)) a = some (exH a (.ref C) d) := by rw [out_not aT, upd_same]
  have ex : Ex (out T H) (out T (upd H a (exH a (.ref C) d))) := (Stp.of_ex (T := T) (Ex.new na)).out
  obtain ⟨n, p⟩ := e
  cases p with
  | none => cases h3; exact .exc h1 ea
  | some q =>
    obtain ⟨f, v⟩ := q
    obtain ⟨dd, x, rfl, h4, h5, h6⟩ := h3
    exact .exf h1 ea (ex _ _ h4) (h5.mono ex)
/-- what a def gives -/
inductive FO where
  | ok (a : A)
  | ex (e : EX)
def spX (K : PySem.W.Frag) (F : List D → Option FO) : Sp := fun vs H Q E => ∃ ds o, DdAll K H vs ds ∧ F ds = some o ∧ match o with
  | .ok r => ∀ v H', Ex H H' → FROk K H H' v r → Q v H'
  | .ex e => ∀ cv d H', Ex H H' → EOk K H' e cv d → E cv d H'
abbrev DXE := List S → IO → Option (FO × IO)
def tXE (K : PySem.W.Frag) (W : WX) (f : DXE) : TE := fun σ H Q => ∃ T sl io, Rel K T σ sl io H ∧ ∃ o io', f sl io = some (o, io') ∧ match o with
  | .ok a => ∀ v H', Stp T H H' → IoOk K T io' H' → VOk K T H H' v a → Q v H'
  | .ex e => ∀ cv d H', Stp T H H' → IoOk K T io' H' → EOk K (out T H') e cv d → W cv d σ H'
inductive LO where
  | ok (as : List A)
  | ex (e : EX)
abbrev DXA := List S → IO → Option (LO × IO)
def tXA (K : PySem.W.Frag) (W : WX) (f : DXA) : TA := fun σ H Q => ∃ T sl io, Rel K T σ sl io H ∧ ∃ o io', f sl io = some (o, io') ∧ match o with
  | .ok as => ∀ vs H', Stp T H H' → IoOk K T io' H' → VOkAll K T H H' vs as → Q vs H'
  | .ex e => ∀ cv d H', Stp T H H' → IoOk K T io' H' → EOk K (out T H') e cv d → W cv d σ H'
inductive BO where
  | ok (b : Bool)
  | ex (e : EX)
abbrev DXT := List S → IO → Option (BO × IO)
def tXT (K : PySem.W.Frag) (W : WX) (f : DXT) : TT := fun σ H Q => ∃ T sl io, Rel K T σ sl io H ∧ ∃ o io', f sl io = some (o, io') ∧ match o with
  | .ok b => ∀ H', Stp T H H' → IoOk K T io' H' → Q b H'
  | .ex e => ∀ cv d H', Stp T H H' → IoOk K T io' H' → EOk K (out T H') e cv d → W cv d σ H'
section
variable {X : Cx} {W : WX} {f g h : DE}
/-! ### expressions -/
def xE (f : DE) : DXE := fun sl io => (f sl io).map fun p => (.ok p.1, p.2)
theorem px_e {e : Expr} (he : PE X e (tE X.K f)) : PE X e (tXE X.K W (xE f)) := PE.imp he fun σ H Q hh => by
  obtain ⟨T, sl, io, hR, o, io', e, q⟩ := hh
  unfold xE at e
  simp only [Option.map_eq_some_iff, Prod.exists, Prod.mk.injEq] at e
  obtain ⟨a, io1, e1, rfl, rfl⟩ := e
  exact one hR e1 q
def xFn (F : List D → Option FO) (g : DA) : DXE := fun sl io => (g sl io).bind fun p => (vws p.2 p.1).bind fun ds => (F ds).map fun o => (o, p.2)
theorem px_fn {k : Nat} {fa : Addr} {fd : FuncData} {ps : List Str} {x : Str} {p pos : Pos} {e : Expr} {es : List Expr} {F : List D → Option FO} {g : DA} (tk : Takes X W) (G : FnOk X.prog X.w X.K X.mg X.base (L2.CX X.prog X.w) k fa fd ps (spX X.K F)) (hr : Room k X.A) (hg : Gl X x) (hm : X.mg x = some (.ref fa)) (hk : PySem.W.keepIn X.K (.ref fa) = true) (hb : Binds X.K fd ps [])
    (ha : PA X (e :: es) (tA X.K g)) (hdb : (x == ("__debug__" : Str)) = false := by decide) (he : starEach (e :: es) X.env = (false, eval e X.env) :: starEach es X.env := by rfl) (hpl : (backTo pos (starEach es X.env)).any (·.1) = false := by rfl) :
    PE X (.Call (.Name x p) (e :: es) [] pos) (tXE X.K W (xFn F g)) := PE.imp (pe_callS (E := WE W) G hr hg hm hk hb (fun σ => passAt tk σ) ha hdb he hpl) fun σ H Q hh => by
  obtain ⟨T, sl, io, hR, o, io', e, q⟩ := hh
  unfold xFn at e
  simp only [Option.bind_eq_some_iff, Option.map_eq_some_iff, Prod.exists, Prod.mk.injEq] at e
  obtain ⟨as, io1, e1, ds, e2, o', e3, rfl, rfl⟩ := e
  refine ⟨T, sl, io, hR, as, _, e1, fun vs H1 s1 i1 v1 => ⟨ds, _, (vws_ok i1 v1 e2).dd, e3, ?_⟩⟩
  cases o' with
  | ok r => exact fun v H' ex hr => q v H' (s1.trans (Stp.of_ex ex)) (i1.ex ex) ((fr_vok (i1.ex ex).tl (fun p n => i1.fresh n) hr).back s1)
  | ex er => exact fun cv d H' ex he => q cv d H' (s1.trans (Stp.of_ex ex)) (i1.ex ex) (he.outs (i1.ex ex).tl)
def xNil : DXA := fun _ io => some (.ok [], io)
def xCons (f : DXE) (a : DXA) : DXA := fun sl io => (f sl io).bind fun p => match p.1 with
  | .ok x => (a sl p.2).map fun q => (match q.1 with | .ok xs => .ok (x :: xs) | .ex e => .ex e, q.2)
  | .ex e => some (.ex e, p.2)
theorem pxa_nil : PA X [] (tXA X.K W xNil) := PA.imp pa_nil fun σ H Q hh => by
  obtain ⟨T, sl, io, hR, o, io', e, q⟩ := hh
  cases e
  exact q [] H (Stp.refl _ _) hR.io .nil
theorem pxa_cons {e : Expr} {es : List Expr} {f : DXE} {a : DXA} (he : PE X e (tXE X.K W f)) (ha : PA X es (tXA X.K W a)) (hs : starEach (e :: es) X.env = (false, eval e X.env) :: starEach es X.env := by rfl) : PA X (e :: es) (tXA X.K W (xCons f a)) := PA.imp (pa_cons he ha hs) fun σ H Q hh => by
  obtain ⟨T, sl, io, hR, o, io', e, q⟩ := hh
  unfold xCons at e
  simp only [Option.bind_eq_some_iff, Prod.exists] at e
  obtain ⟨o1, io1, e1, e2⟩ := e
  refine ⟨T, sl, io, hR, o1, io1, e1, ?_⟩
  cases o1 with
  | ok x =>
    simp only [Option.map_eq_some_iff, Prod.exists, Prod.mk.injEq] at e2
    obtain ⟨o2, io2, e3, rfl, rfl⟩ := e2
    refine fun v H1 s1 i1 v1 => ⟨T, sl, io1, hR.step s1 i1, o2, _, e3, ?_⟩
    cases o2 with
    | ok xs => exact fun vs H2 s2 i2 v2 => q (v :: vs) H2 (s1.trans s2) i2 (.cons (v1.mono s2) (v2.back s1))
    | ex er => exact fun cv d H2 s2 i2 he => q cv d H2 (s1.trans s2) i2 he
  | ex er => cases e2; exact q
def xTup (g : DXA) : DXE := fun sl io => (g sl io).bind fun p => match p.1 with
  | .ok as => (vwIs as).bind fun ds => if ds.length ≤ LIM then some (.ok (.dat (.tuple ds)), p.2) else none
  | .ex e => some (.ex e, p.2)
theorem px_tup {es : List Expr} {g : DXA} {x1 : Nat} {pos : Pos} (h : PA X es (tXA X.K W g)) : PE X (.Tuple es x1 pos) (tXE X.K W (xTup g)) := PE.imp (pe_tup h) fun σ H Q hh => by
  obtain ⟨T, sl, io, hR, r, io', e, q⟩ := hh
  unfold xTup at e
  simp only [Option.bind_eq_some_iff, Prod.exists] at e
  obtain ⟨o1, io1, e1, e2⟩ := e
  refine ⟨T, sl, io, hR, o1, io1, e1, ?_⟩
  cases o1 with
  | ok as =>
    simp only [Option.bind_eq_some_iff] at e2
    obtain ⟨ds, e2, e3⟩ := e2
    split at e3
    · cases e3
      refine fun vs H1 s1 i1 v1 => ?_
      have hd := vwIs_ok v1 e2
      refine ⟨by rw [hd.length]; exact lim_le (by assumption), fun p hp => q _ _ (s1.trans (Stp.of_ex (Ex.new hp))) (i1.ex (Ex.new hp)) (dd_newT hp (i1.fresh hp) hd)⟩
    · cases e3
  | ex er => cases e2; exact q
def xTru (f : DXE) : DXT := fun sl io => (f sl io).bind fun p => match p.1 with
  | .ok a => (vw p.2 a).bind fun d => (truD d).map fun b => (.ok b, p.2)
  | .ex e => some (.ex e, p.2)
theorem px_tru {a : Expr} {f : DXE} (ha : PE X a (tXE X.K W f)) (he : ∀ whole, isTrue a X.env whole = (do let v ← whole; standAt a.pos; holding [v] (truthy v)) := by intro _; rfl) : PT X a (tXT X.K W (xTru f)) := by
  refine PT.imp (pt_truth ha he) fun σ H Q hh => ?_
  obtain ⟨T, sl, io, hR, b, io', e, q⟩ := hh
  unfold xTru at e
  simp only [Option.bind_eq_some_iff, Prod.exists] at e
  obtain ⟨o1, io1, e1, e2⟩ := e
  refine ⟨T, sl, io, hR, o1, io1, e1, ?_⟩
  cases o1 with
  | ok a =>
    simp only [Option.bind_eq_some_iff, Option.map_eq_some_iff, Prod.mk.injEq] at e2
    obtain ⟨d, e2, b', e3, rfl, rfl⟩ := e2
    exact fun x H1 s1 i1 v1 => ⟨_, tru_of (vw_ok v1 i1 e2) e3, q H1 s1 i1⟩
  | ex er => cases e2; exact q
end
end DD
set_option Elab.async false
set_option linter.all false
set_option maxRecDepth 100000
set_option maxHeartbeats 4000000
/-! DD: statements that may raise; try; defs that may raise. -/
namespace DD
open PySem PySem.Spec PyProof.Rows L2
inductive XR where
  | r (r : R)
  | ex (e : EX) (sl : List S) (io : IO)
abbrev DXS := List S → IO → Option XR
def XOk (K : PySem.W.Frag) (W : WX) (T : List Addr) (H : Hp) (D : Ends) : XR → Prop
  | .r r => RtOk K T H D r
  | .ex e sl io => ∀ T' σ cv d H', Rel K T' σ sl io H' → Fr T H T' H' → EOk K (out T' H') e cv d → W cv d σ H'
theorem XOk.fr {K : PySem.W.Frag} {W : WX} {T T1 : List Addr} {H H1 : Hp} {D : Ends} {o : XR} (h : XOk K W T H D o) (f : Fr T H T1 H1) : XOk K W T1 H1 D o := by
  cases o with
  | r r => exact RtOk.fr h f
  | ex e sl io => exact fun T' σ cv d H' hr hf he => h T' σ cv d H' hr (f.trans hf) he
def tXS (K : PySem.W.Frag) (W : WX) (f : DXS) : TS := fun D σ H => ∃ T sl io, Rel K T σ sl io H ∧ ∃ o, f sl io = some o ∧ XOk K W T H D o
section
variable {X : Cx} {W : WX}
def xS (f : DS) : DXS := fun sl io => (f sl io).map .r
theorem xs_run {K : PySem.W.Frag} {f : DS} {D : Ends} {σ : L2.St} {H : Hp} (hh : tXS K W (xS f) D σ H) : tS K f D σ H := by
  obtain ⟨T, sl, io, hR, o, e, q⟩ := hh
  unfold xS at e
  rw [Option.map_eq_some_iff] at e
  obtain ⟨r, e1, rfl⟩ := e
  exact ⟨T, sl, io, hR, r, e1, q⟩
theorem px_s {st : Stmt} {f : DS} (h : PS X st (tS X.K f)) : PS X st (tXS X.K W (xS f)) := PS.imp h fun _ _ _ hh => xs_run hh
theorem px_ss {st : List Stmt} {f : DS} (h : PSs X st (tS X.K f)) : PSs X st (tXS X.K W (xS f)) := PSs.imp h fun _ _ _ hh => xs_run hh
def xSeq (f g : DXS) : DXS := fun sl io => (f sl io).bind fun o => match o with
  | .r (.nx sl' io') => g sl' io'
  | o => some o
theorem px_cons {st : Stmt} {rest : List Stmt} {f g : DXS} (h1 : PS X st (tXS X.K W f)) (h2 : PSs X rest (tXS X.K W g)) : PSs X (st :: rest) (tXS X.K W (xSeq f g)) := PSs.imp (pss_cons h1 h2) fun D σ H hh => by
  obtain ⟨T, sl, io, hR, o, e, q⟩ := hh
  unfold xSeq at e
  rw [Option.bind_eq_some_iff] at e
  obtain ⟨o1, e1, e2⟩ := e
  refine ⟨T, sl, io, hR, o1, e1, ?_⟩
  cases o1 with
  | r r1 =>
    cases r1 with
    | nx sl' io' => exact fun T' σ' H' hr hf => ⟨T', sl', io', hr, o, e2, q.fr hf⟩
    | bk sl' io' => cases e2; exact q
    | ct sl' io' => cases e2; exact q
    | rt a io' => cases e2; exact q
  | ex er sl' io' => cases e2; exact q
theorem px_one {st : Stmt} {f : DXS} (h1 : PS X st (tXS X.K W f)) : PSs X [st] (tXS X.K W f) := PSs.imp (pss_one h1) fun _ _ _ hh => hh
def xIf (t : DXT) (f g : DXS) : DXS := fun sl io => (t sl io).bind fun p => match p.1 with
  | .ok b => if b then f sl p.2 else g sl p.2
  | .ex e => some (.ex e sl p.2)
def xT (t : DT) : DXT := fun sl io => (t sl io).map fun p => (.ok p.1, p.2)
theorem px_t {a : Expr} {t : DT} (ha : PT X a (tT X.K t)) : PT X a (tXT X.K W (xT t)) := PT.imp ha fun σ H Q hh => by
  obtain ⟨T, sl, io, hR, o, io', e, q⟩ := hh
  unfold xT at e
  simp only [Option.map_eq_some_iff, Prod.exists, Prod.mk.injEq] at e
  obtain ⟨b, io1, e1, rfl, rfl⟩ := e
  exact ⟨T, sl, io, hR, b, _, e1, q⟩
theorem px_if {c : Expr} {a b : List Stmt} {t : DXT} {f g : DXS} {pos : Pos} (hc : PT X c (tXT X.K W t)) (ha : PSs X a (tXS X.K W f)) (hb : PSs X b (tXS X.K W g)) : PS X (.If c a b pos) (tXS X.K W (xIf t f g)) := PS.imp (ps_if hc ha hb) fun D σ H hh => by
  obtain ⟨T, sl, io, hR, o, e, q⟩ := hh
  unfold xIf at e
  simp only [Option.bind_eq_some_iff, Prod.exists] at e
  obtain ⟨c, io1, e1, e2⟩ := e
  refine ⟨T, sl, io, hR, c, io1, e1, ?_⟩
  cases c with
  | ok b =>
    refine fun H1 s1 i1 => ?_
    cases b with
    | true => exact ⟨T, sl, io1, hR.step s1 i1, o, e2, q.fr (Fr.of_stp s1)⟩
    | false => exact ⟨T, sl, io1, hR.step s1 i1, o, e2, q.fr (Fr.of_stp s1)⟩
  | ex er =>
    cases e2
    exact fun cv d H' s1 i1 he => q T σ cv d H' (hR.step s1 i1) (Fr.of_stp s1) he
def xRet (f : DXE) : DXS := fun sl io => (f sl io).map fun p => match p.1 with
  | .ok a => .r (.rt a p.2)
  | .ex e => .ex e sl p.2
theorem px_ret {e : Expr} {f : DXE} {pos : Pos} (he : PE X e (tXE X.K W f)) : PS X (.Return (some e) pos) (tXS X.K W (xRet f)) := PS.imp (ps_ret he) fun D σ H hh => by
  obtain ⟨T, sl, io, hR, o, e, q⟩ := hh
  unfold xRet at e
  simp only [Option.map_eq_some_iff, Prod.exists] at e
  obtain ⟨a, io1, e1, rfl⟩ := e
  refine ⟨T, sl, io, hR, a, io1, e1, ?_⟩
  cases a with
  | ok a => exact fun x H1 s1 i1 v1 => q T x H1 i1 (Fr.of_stp s1) v1
  | ex er => exact fun cv d H' s1 i1 he => q T σ cv d H' (hR.step s1 i1) (Fr.of_stp s1) he
def xDrop (f : DXE) : DXS := fun sl io => (f sl io).map fun p => match p.1 with
  | .ok _ => .r (.nx sl p.2)
  | .ex e => .ex e sl p.2
theorem px_drop {e : Expr} {f : DXE} {pos : Pos} (he : PE X e (tXE X.K W f)) (hs : swapsWith e none pos.line X.env = pure false := by rfl) : PS X (.Expr e pos) (tXS X.K W (xDrop f)) := PS.imp (ps_expr he hs) fun D σ H hh => by
  obtain ⟨T, sl, io, hR, o, e, q⟩ := hh
  unfold xDrop at e
  simp only [Option.map_eq_some_iff, Prod.exists] at e
  obtain ⟨a, io1, e1, rfl⟩ := e
  refine ⟨T, sl, io, hR, a, io1, e1, ?_⟩
  cases a with
  | ok a => exact fun x H1 s1 i1 v1 => q T σ H1 (hR.step s1 i1) (Fr.of_stp s1)
  | ex er => exact fun cv d H' s1 i1 he => q T σ cv d H' (hR.step s1 i1) (Fr.of_stp s1) he
def xSet (i : Nat) (f : DXE) : DXS := fun sl io => (f sl io).map fun p => match p.1 with
  | .ok a => .r (.nx (sl.set i (slotOf a)) p.2)
  | .ex e => .ex e sl p.2
theorem px_set {i : Nat} {st : Stmt} {f : DXE} (h : PS X st (tAsg (tXE X.K W f) (gName i))) : PS X st (tXS X.K W (xSet i f)) := PS.imp h fun D σ H hh => by
  obtain ⟨T, sl, io, hR, o, e, q⟩ := hh
  unfold xSet at e
  simp only [Option.map_eq_some_iff, Prod.exists] at e
  obtain ⟨a, io1, e1, rfl⟩ := e
  refine ⟨T, sl, io, hR, a, io1, e1, ?_⟩
  cases a with
  | ok a => exact fun x H1 s1 i1 v1 => q T _ H1 ((hR.step s1 i1).set i (slotOf_ok v1)) (Fr.of_stp s1)
  | ex er => exact fun cv d H' s1 i1 he => q T σ cv d H' (hR.step s1 i1) (Fr.of_stp s1) he
/-! ### for -/
def forGoX (c : Chk) (tg : Tg) (body : DXS) : List D → DXS
  | [], sl, io => if chk c io = true then some (.r (.nx sl io)) else none
  | d :: r, sl, io => if chk c io = true then (tgGo tg d sl).bind fun sl1 => (body sl1 io).bind fun x => match x with
    | .r (.nx sl2 io2) => forGoX c tg body r sl2 io2
    | .r (.ct sl2 io2) => forGoX c tg body r sl2 io2
    | .r (.bk sl2 io2) => some (.r (.nx sl2 io2))
    | .r (.rt a io2) => some (.r (.rt a io2))
    | .ex e sl2 io2 => some (.ex e sl2 io2) else none
def xFor (it : DI) (tg : Tg) (body : DXS) : DXS := fun sl io => (it sl io).bind fun p => forGoX p.1.2 tg body p.1.1 sl p.2
theorem px_for {iter tgt : Expr} {bd : List Stmt} {it : DI} {tg : Tg} {body : DXS} {pos : Pos} (hp : PassesOwn (model X.prog X.w) X.A X.env X.xe) (hc : X.calm = true) (hi : PI X tgt iter (tI X.K it)) (hg : PG X tgt (gTg X.K tg)) (hb : PSs X bd (tXS X.K W body))
    (hs : ∀ x, foldedSetIterable iter X.env x = pure x := by intro _; rfl) : PS X (.For tgt iter bd [] pos) (tXS X.K W (xFor it tg body)) := PS.imp (ps_for hp hc hi hg hb hs) fun D σ H hh => by
  obtain ⟨T, sl, io, hR, o, e, q⟩ := hh
  unfold xFor at e
  rw [Option.bind_eq_some_iff] at e
  obtain ⟨⟨⟨items, c⟩, io1⟩, e1, e2⟩ := e
  refine ⟨T, sl, io, hR, items, c, io1, e1, fun J H1 s1 i1 src => ?_⟩
  have hR1 := hR.step s1 i1
  have q1 := q.fr (Fr.of_stp s1)
  refine ⟨fun i m σ' H' => i + m = items.length ∧ ∃ T' sl' io', Rel X.K T' σ' sl' io' H' ∧ Fr T H1 T' H' ∧ forGoX c tg body (items.drop i) sl' io' = some o, ⟨items.length, by omega, T, sl, io1, hR1, Fr.refl _ _, e2⟩, ?_⟩
  rintro i m σ' H' ⟨em, T', sl', io', hR', hf, e'⟩
  by_cases hlt : i < items.length
  · have hdr : items.drop i = items[i] :: items.drop (i + 1) := List.drop_eq_getElem_cons hlt
    rw [hdr] at e'
    unfold forGoX at e'
    split at e'
    · rename_i hck
      simp only [Option.bind_eq_some_iff] at e'
      obtain ⟨sl1, e3, x, e4, e5⟩ := e'
      obtain ⟨g1, g2⟩ := src.go T' io' H' i items[i] hf hR'.io hck (List.getElem?_eq_getElem hlt)
      refine .inr ⟨g1, fun σ2 H2 => ∃ T' sl' io', Rel X.K T' σ2 sl' io' H2 ∧ Fr T H1 T' H2 ∧ forGoX c tg body (items.drop (i + 1)) sl' io' = some o, fun σ2 H2 hN => ⟨m - 1, by omega, by omega, hN⟩, fun v H2 hy => ?_⟩
      obtain ⟨ex, hd⟩ := g2 v H2 hy
      refine tg_run (hR'.ex ex) hd e3 fun σ3 hr3 => ?_
      refine ⟨T', sl1, io', hr3, x, e4, ?_⟩
      have hf1 := hf.trans (Fr.of_stp (Stp.of_ex (T := T') ex))
      cases x with
      | r x =>
        cases x with
        | nx sl2 io2 => exact fun T2 σ2 H3 hr2 hf2 => ⟨T2, sl2, io2, hr2, hf1.trans hf2, e5⟩
        | ct sl2 io2 => exact fun T2 σ2 H3 hr2 hf2 => ⟨T2, sl2, io2, hr2, hf1.trans hf2, e5⟩
        | bk sl2 io2 =>
          cases e5
          exact fun T2 σ2 H3 hr2 hf2 => q1 T2 σ2 H3 hr2 (hf1.trans hf2)
        | rt a io2 =>
          cases e5
          exact (XOk.fr q1 hf1 : XOk X.K W T' H2 D (.r (.rt a io2)))
      | ex er sl2 io2 =>
        cases e5
        exact (XOk.fr q1 hf1 : XOk X.K W T' H2 D (.ex er sl2 io2))
    · cases e'
  · have hdr : items.drop i = [] := List.drop_eq_nil_of_le (by omega)
    rw [hdr] at e'
    unfold forGoX at e'
    split at e'
    · rename_i hck
      cases e'
      exact .inl ⟨src.stop T' io' H' i hf hR'.io hck (by omega), q1 T' σ' H' hR' hf⟩
    · cases e'
/-! ### try: .. except C as n -/
def unslot (i : Nat) : R → R
  | .nx sl io => .nx (sl.set i .un) io
  | .bk sl io => .bk (sl.set i .un) io
  | .ct sl io => .ct (sl.set i .un) io
  | .rt a io => .rt a io
def xTry (body : DXS) (cn : Str) (i : Nat) (suite : DS) : DS := fun sl io => (body sl io).bind fun o => match o with
  | .r r => some r
  | .ex e sl' io' => if e.cls = cn then (suite (sl'.set i (.dat (exData e))) io').map (unslot i) else none
theorem Rel.unset {K : PySem.W.Frag} {T : List Addr} {σ : L2.St} {sl : List S} {io : IO} {H : Hp} (h : Rel K T σ sl io H) (i : Nat) : Rel K T (σ.set i none) (sl.set i .un) io H := h.wipe [i]
theorem px_try {x n : Str} {i : Nat} {C0 : Addr} {body suite : List Stmt} {st0 : Stmt} {np pos pos' : Pos} {b : DXS} {su : DS} (hs : X.stack = X.env :: X.outer) (hf : X.env.frame = some X.env.locals) (hN : X.N.Nodup) (hi : X.N[i]? = some n) (hln : X.env.kindOf n = some .local) (hc : Names X x (.ref C0)) (tk : Takes X fun _ _ _ _ => False) (hex : X.ex = [])
    (hn : PySem.W.nsIn X.K mainGlobals x = some (some (.ref C0))) (he : PySem.W.exmOne X.K (.ref C0) (.ref C0) = some true)
    (hb : ∀ (W : WX) (pn : List (Addr × Obj)) (xe : Value → Shared → Prop), Takes (X.tr pn xe) W → PassesOwn (model X.prog X.w) X.A X.env xe → PSs (X.tr pn xe) body (tXS X.K W b))
    (hsu : ∀ (a : Addr) (pn : List (Addr × Obj)), PSs (X.suite a pn) (st0 :: suite) (tS X.K su)) :
    PS X (.Try body [.ExceptHandler (some (.Name x np)) (some n) (st0 :: suite) pos'] [] [] pos) (tS X.K (xTry b x i su)) :=
  PS.imp (ps_try_keep (i := i) (tb := fun W => tXS X.K W b) (ts := fun _ _ _ => tS X.K su) hs hf hN hi hln hc tk hex hb fun a cls d pn => hsu a pn) fun D σ H hh => by
  obtain ⟨T, sl, io, hR, r, e, q⟩ := hh
  unfold xTry at e
  rw [Option.bind_eq_some_iff] at e
  obtain ⟨o, e1, e2⟩ := e
  refine ⟨T, sl, io, hR, o, e1, ?_⟩
  cases o with
  | r r1 => cases e2; exact q
  | ex er sl' io' =>
    simp only [] at e2
    split at e2
    · rename_i hcl
      rw [Option.map_eq_some_iff] at e2
      obtain ⟨r2, e3, rfl⟩ := e2
      intro T' σ' cv d H' hr hf' hE
      obtain ⟨C1, w1, rfl, w3⟩ := id hE
      have hC : C1 = C0 := by
        rw [hcl, hn] at w1
        cases w1
        rfl
      subst hC
      refine ⟨true, he, fun _ a na => ?_, fun z => nomatch z⟩
      have ex : Ex H' (upd H' a (exH a (.ref C1) d)) := Ex.new na
      have hr2 := (hr.ex ex).set i (v := .ref a) (s := .dat (exData er)) ⟨_, rfl, EOk.kept hr.io.tl hE na⟩
      refine ⟨T', _, io', hr2, r2, e3, ?_⟩
      have q2 := q.fr (hf'.trans (Fr.of_stp (Stp.of_ex (T := T') ex)))
      cases r2 with
      | nx sl2 io2 => exact fun T2 σ2 H2 h2 f2 => q2 T2 _ H2 (h2.unset i) f2
      | bk sl2 io2 => exact fun T2 σ2 H2 h2 f2 => q2 T2 _ H2 (h2.unset i) f2
      | ct sl2 io2 => exact fun T2 σ2 H2 h2 f2 => q2 T2 _ H2 (h2.unset i) f2
      | rt a io2 => exact q2
    · cases e2
end
/-! ### defs -/
def payIm : EX → Bool
  | ⟨_, none⟩ => true
  | ⟨_, some (_, v)⟩ => im v
def runX (np ns : Nat) (body : DXS) : List D → Option FO := fun ds => if ds.length = np then (body (slots ns (ds.map .dat)) []).bind fun o => match o with
  | .r r => (finish 0 r).map fun p => .ok p.1
  | .ex e _ _ => some (.ex e) else none
theorem runX_ok {K : PySem.W.Frag} {np : Nat} {N : List Str} {body : DXS} {vs : List V} {H : Hp} {Q : VK} {E : XK} (h : spX K (runX np N.length body) vs H Q E) : tXS K (fun cv d _ H => E cv d H) body { nx := fun _ H' => Q .non H', rt := Q } (L2.start N vs) H := by
  obtain ⟨ds, o, hd, e, q⟩ := h
  unfold runX at e
  split at e
  · simp only [Option.bind_eq_some_iff] at e
    obtain ⟨x, e1, e2⟩ := e
    have hd' : DdAll K (out [] H) vs ds := by rw [out_nil]; exact hd
    refine ⟨[], _, [], ⟨start_len hd', fun i s hs => start_slot hd' hs, ⟨.nil, rfl, fun k p hp => by simp at hp⟩⟩, x, e1, ?_⟩
    have ex : ∀ {T' : List Addr} {H' : Hp}, Fr [] H T' H' → Ex H H' := fun f b o e => f.keep b o (fun z => nomatch z) e
    cases x with
    | r x =>
      simp only [Option.map_eq_some_iff, Prod.exists] at e2
      obtain ⟨r', ios, e3, rfl⟩ := e2
      cases x with
      | nx sl' io' =>
        simp only [finish] at e3
        cases e3
        exact fun T' σ' H' hr hf => q _ H' (ex hf) ⟨.non, rfl⟩
      | rt a io' => exact fun T' v H' i' hf hv => q v H' (ex hf) (fin_ok (T0 := []) i' hf hv e3).1
      | bk sl' io' => cases e3
      | ct sl' io' => cases e3
    | ex er sl' io' =>
      cases e2
      exact fun T' σ' cv d H' hr hf he => q cv d H' (ex hf) (he.mono out_ex)
  · cases e
section
variable {P : Program} {w : World} {K : PySem.W.Frag} {mg : Str → Option Value} {base : Heap}
theorem spX_len {np ns : Nat} {body : DXS} {ps : List Str} (h : ps.length = np) : ∀ vs H Q E, spX K (runX np ns body) vs H Q E → vs.length = ps.length := fun vs H Q E ⟨ds, r, hd, e, _⟩ => by
  unfold runX at e
  split at e
  · rename_i hl
    rw [hd.length, h, hl]
  · cases e
theorem okX {x qual : Str} {st : Stmt} {f : Addr} {fd : FuncData} {N ps : List Str} {k np : Nat} {body : DXS} (F : Fun K x qual st f fd) (Sc : FnScope N ps (defScope st)) (hps : ps.length = np)
    (hbody : ∀ (cdv : Value) (A : Around) (outer : List Env) (s : Shared) (H : Hp) (E : XK), Room k (A.deeper (envOfC qual (defScope st) s.heap.objs.size f cdv)) →
      PSs (cxOf (L2.CX P w) P w K mg base N qual (defScope st) f cdv A outer s H E) (defBody st) (tXS K (fun cv d _ H => E cv d H) body)) : FnOk P w K mg base (L2.CX P w) (k + 1) f fd ps (spX K (runX np N.length body)) :=
  F.okX Sc (spX_len hps) fun cdv A outer s H vs Q E hr h => ⟨_, hbody cdv A outer s H E hr, runX_ok h⟩
end
end DD
set_option Elab.async false
set_option linter.all false
set_option maxRecDepth 100000
set_option maxHeartbeats 4000000
/-! DD: own error classes: made, raised, asked. -/
namespace DD
open PySem PySem.Spec PyProof.Rows L2
/-- __init__(self, y): the base's __init__, then self.f = y -/
def spInit (f : Str) (K : PySem.W.Frag) : Sp := fun vs H Q _ => ∃ (a C : Addr) (y : V), vs = [.ref a, y] ∧ OexC K C ∧ PySem.W.findIn K (.ref C) f = some none ∧ H a = some (exo a C none) ∧ ∀ dx, H dx = none → dx ≠ a → Q .non (upd (upd H dx (exd dx [(f, y)])) a (exo a C (some dx)))
section
variable {P : Program} {w : World} {K : PySem.W.Frag} {mg : Str → Option Value} {base : Heap}
/-- a def in a class -/
def clsS : Stmt → Nat → Stmt
  | .ClassDef _ _ _ body _ _ _ _ _ _ _, j => body.getD j (.Pass ⟨0, 0, 0, 0⟩)
  | st, _ => st
theorem ok_init {x qual f m : Str} {st : Stmt} {fa : Addr} {fd : FuncData} {N ps : List Str} {k : Nat} (F : Fun K x qual st fa fd) (Sc : FnScope N ps (defScope st)) (h2 : ps.length = 2) (hN : N.length = 2)
    (hbody : ∀ (cdv : Value) (A : Around) (outer : List Env) (s : Shared) (H : Hp) (E : XK), Room k (A.deeper (envOfC qual (defScope st) s.heap.objs.size fa cdv)) →
      PSs (cxOf CX0 P w K mg base N qual (defScope st) fa cdv A outer s H E).nox (defBody st) (tSeq (tDrop (tVeI K (tCons (tVar 0) (tCons (tC (.str m)) tNil)))) (tOst K f (tVar 0) (tVar 1)))) :
    FnOk P w K mg base CX0 (k + 1) fa fd ps (spInit f K) :=
  F.ok Sc (fun vs H Q E h => by obtain ⟨a, C, y, rfl, _⟩ := h; rw [h2]; rfl) fun cdv A outer s H vs Q E hr h => ⟨_, hbody cdv A outer s H E hr, by
    obtain ⟨a, C, y, rfl, T, hno, ea, q⟩ := h
    have hst : L2.start N [.ref a, y] = [some (.ref a), some y] := by unfold L2.start; rw [hN]; rfl
    rw [hst]
    exact ⟨.ref a, rfl, a, C, [.str m], rfl, by simp, T, ea, y, rfl, .ref a, rfl, a, C, rfl, T, hno, .inl ⟨ea, fun dx n ne => q dx n ne⟩⟩⟩
end
section
variable {X : Cx} {W : WX}
def xRaise (n f : Str) (g : DA) : DXS := fun sl io => (g sl io).bind fun p => match p.1 with
  | [.dat v] => if im v = true then some (.ex ⟨n, some (f, v)⟩ sl p.2) else none
  | _ => none
theorem px_raise {x f : Str} {C fI : Addr} {k : Nat} {fd : FuncData} {ps : List Str} {p pos pos' : Pos} {e : Expr} {g : DA} (hc : X.calm = true) (tk : Takes X W) (T : OexC X.K C) (iC : PySem.W.findIn X.K (.ref C) "__init__" = some (some (.ref fI))) (tI : PySem.W.typeIn X.K (.ref fI) = some (.type "function")) (hno : PySem.W.findIn X.K (.ref C) f = some none)
    (hn : PySem.W.nsIn X.K mainGlobals x = some (some (.ref C))) (F1 : FnOk X.prog X.w X.K X.mg X.base CX0 k fI fd ps (spInit f X.K)) (hr : Room (k + 1) X.A) (hb : Binds X.K fd ps []) (hg : Gl X x) (hm : X.mg x = some (.ref C)) (ha : PA X [e] (tA X.K g))
    (hdb : (x == ("__debug__" : Str)) = false := by decide) (he : starEach [e] X.env = (false, eval e X.env) :: starEach [] X.env := by rfl) (hpl : (backTo pos (starEach [] X.env)).any (·.1) = false := by rfl) :
    PS X (.Raise (some (.Call (.Name x p) [e] [] pos)) none pos') (tXS X.K W (xRaise x f g)) :=
  PS.imp (ps_raise hc tk (pmk_oex T iC tI F1 hr hb .nil pass0 hg hm ha hdb he hpl)) fun D σ H hh => by
  obtain ⟨Tl, sl, io, hR, o, e0, q⟩ := hh
  unfold xRaise at e0
  simp only [Option.bind_eq_some_iff, Prod.exists] at e0
  obtain ⟨as, io1, e1, e2⟩ := e0
  split at e2
  · rename_i v
    split at e2
    · rename_i hi
      cases e2
      refine ⟨Tl, sl, io, hR, _, _, e1, fun vs H1 s1 i1 v1 => ?_⟩
      cases v1 with
      | cons h1 t1 =>
        rename_i y _
        cases t1
        refine ⟨by simp, fun a na => ⟨a, C, y, rfl, T, hno, upd_same, fun dx nd ne => ⟨rfl, dx, [(f, y)], upd_same, by rw [upd_ne ne, upd_same], ?_, ?_⟩⟩⟩
        · rw [upd_ne ne] at nd; exact nd
        · have nd' : H1 dx = none := by rw [upd_ne ne] at nd; exact nd
          have eH : upd (del (upd (upd (upd H1 a (exo a C none)) dx (exd dx [(f, y)])) a (exo a C (some dx))) a) dx (.xd [(f, y)]) = upd H1 dx (.xd [(f, y)]) := by
            funext b
            by_cases hb : b = dx
            · rw [hb, upd_same, upd_same]
            · rw [upd_ne hb, upd_ne hb]
              by_cases hba : b = a
              · rw [hba, del_same, na]
              · rw [del_ne hba, upd_ne hba, upd_ne hb, upd_ne hba]
          rw [eH]
          have ex : Ex H1 (upd H1 dx (.xd [(f, y)])) := Ex.new nd'
          have hR2 := (hR.step s1 i1).ex ex
          have dT : dx ∉ Tl := i1.fresh nd'
          refine q Tl σ _ _ _ hR2 ((Fr.of_stp s1).trans (Fr.of_stp (Stp.of_ex ex))) ⟨C, hn, rfl, dx, y, rfl, by rw [out_not dT, upd_same], ?_, hi⟩
          have h1' : Dd X.K (out Tl H1) y v := h1
          exact h1'.mono (Stp.of_ex (T := Tl) ex).out
    · cases e2
  · cases e2
/-! asked: isinstance, a field -/
def dIsx (tab : Str → Option Bool) (f : DE) : DE := fun sl io => (f sl io).bind fun p => match p.1 with
  | .dat (.dict ((.str n, _) :: _)) => (tab n).map fun b => (.dat (.bool b), p.2)
  | _ => none
theorem exc_at {K : PySem.W.Frag} {H : Hp} {x : V} {n : Str} {d0 : D} {r : List (D × D)} (h : Dd K H x (.dict ((.str n, d0) :: r))) : ∃ (a C : Addr) (d : Option Addr) (fs : List (Str × V)), x = .ref a ∧ PySem.W.nsIn K mainGlobals n = some (some (.ref C)) ∧ H a = some (exH a (.ref C) d) ∧ xdAt H d fs := by
  cases h with
  | exc h1 h2 => exact ⟨_, _, none, [], rfl, h1, h2, rfl⟩
  | exf h1 h2 h3 h4 => exact ⟨_, _, some _, _, rfl, h1, h2, h3⟩
theorem xdAt.mono {H H' : Hp} (ex : Ex H H') {d : Option Addr} {fs : List (Str × V)} (h : xdAt H d fs) : xdAt H' d fs := by
  cases d with
  | none => exact h
  | some dd => exact ex _ _ h
theorem pd_isx {tab : Str → Option Bool} {c : V} {cv : Value} {f : DE} {a b : Expr} {p pos : Pos} (hg : Gl X "isinstance") (hm : X.mg "isinstance" = none) (hv : bootBuiltins "isinstance" = some (.builtin "isinstance"))
    (hcv : ∀ u, RelV c u → u = cv) (ht : ∀ n b C, tab n = some b → PySem.W.nsIn X.K mainGlobals n = some (some (.ref C)) → ExcC X.K C ∧ PySem.W.kitOne X.K (.ref C) cv = some b) (h1 : PE X a (tE X.K f)) (h2 : PE X b (fun σ H Q => Q c H))
    (hs : starEach [a, b] X.env = (false, eval a X.env) :: starEach [b] X.env := by rfl) (hs2 : starEach [b] X.env = (false, eval b X.env) :: starEach [] X.env := by rfl) (hpl : (backTo pos (starEach [b] X.env)).any (·.1) = false := by rfl) :
    PE X (.Call (.Name "isinstance" p) [a, b] [] pos) (tE X.K (dIsx tab f)) := PE.imp (pe_callB (call_isX (X := X)) hg hm hv (pa_cons h1 (pa_cons h2 pa_nil hs2) hs) (by decide) (by decide) hs hpl) fun σ H Q hh => by
  obtain ⟨T, sl, io, hR, r, io', e, q⟩ := hh
  unfold dIsx at e
  simp only [Option.bind_eq_some_iff, Prod.exists] at e
  obtain ⟨x, io1, e1, e2⟩ := e
  split at e2
  · rename_i n d0 r0
    simp only [Option.map_eq_some_iff, Prod.mk.injEq] at e2
    obtain ⟨b, e3, rfl, rfl⟩ := e2
    refine ⟨T, sl, io, hR, _, _, e1, fun v H1 s1 i1 v1 => ?_⟩
    have v1' : Dd X.K (out T H1) v (.dict ((.str n, d0) :: r0)) := v1
    obtain ⟨a, C, d, fs, rfl, hn, ha, hd⟩ := exc_at v1'
    obtain ⟨t1, t2⟩ := ht n b C e3 hn
    exact ⟨a, C, d, fs, c, cv, b, rfl, out_ex _ _ ha, hd.mono out_ex, t1, hcv, t2, q _ H1 s1 i1 (.bl b)⟩
  · cases e2
/-- e.f of an exception -/
def dFld (at_ : Str) (okc : Str → Bool) (f : DE) : DE := fun sl io => (f sl io).bind fun p => match p.1 with
  | .dat (.dict [(.str n, .str f1), (.str _, v)]) => if f1 = at_ ∧ okc n = true then some (.dat v, p.2) else none
  | _ => none
theorem pd_fld {at_ : Str} {okc : Str → Bool} {f : DE} {a : Expr} {pos : Pos} (ht : ∀ n C, okc n = true → PySem.W.nsIn X.K mainGlobals n = some (some (.ref C)) → XfC X.K C ∧ PySem.W.findIn X.K (.ref C) at_ = some none) (h : PE X a (tE X.K f)) (hb : attributeBase a at_ X.env (eval a X.env) = eval a X.env := by rfl) :
    PE X (.Attribute a at_ pos) (tE X.K (dFld at_ okc f)) := PE.imp (pe_xfH h hb) fun σ H Q hh => by
  obtain ⟨T, sl, io, hR, r, io', e, q⟩ := hh
  unfold dFld at e
  simp only [Option.bind_eq_some_iff, Prod.exists] at e
  obtain ⟨x, io1, e1, e2⟩ := e
  split at e2
  · rename_i n f1 f2 v
    split at e2
    · rename_i hc
      obtain ⟨rfl, hc⟩ := hc
      cases e2
      refine ⟨T, sl, io, hR, _, _, e1, fun y H1 s1 i1 v1 => ?_⟩
      have v1' : Dd X.K (out T H1) y (.dict [(.str n, .str f1), (.str f2, v)]) := v1
      cases v1' with
      | exf h1 h2 h3 h4 =>
        obtain ⟨t1, t2⟩ := ht n _ hc h1
        exact ⟨_, _, _, _, _, rfl, out_ex _ _ h2, out_ex _ _ h3, t1, t2, by simp [List.lookup], q _ H1 s1 i1 h4⟩
    · cases e2
  · cases e2
end
end DD
set_option Elab.async false
set_option linter.all false
set_option maxRecDepth 100000
set_option maxHeartbeats 4000000
/-! DD: an own error as a value. -/
namespace PySem
namespace HandSPX
open PySem.W PySem.Calls PyProof.Rows
open Builtin Builtin.ObjectAttr
section
variable {prog : Program} {w : World} {A : Around} {E : Value → Shared → Prop} {R : Result → Shared → Prop} {h : Heap} {g : Array GenState} {d : Drawn} {t : Nat} {os : OsState}
variable {nm q : Str} {C N : Addr} {bs bm bmB : List Value} {hdct : Bool} {sn : List Str} {sub : List Value} {ab : Bool} {col : Option Bool} {dd : Option Addr} {k0 k1 k2 k3 k5 : Option Value} {B newId initId : String}
theorem new_ownK (F : ExcBaseFacts B newId initId bmB) (hT : ∀ X : String, bm.contains (.type X) = bmB.contains (.type X)) {kw : Str × Value}
    (hC : h.get? C = some (excClassObj nm q C N bs bm hdct sn sub ab col dd k0 k1 k2 k3 k5 newId))
    (hq : R (.ok (.ret (.ref (h.objs.size + 1)))) ⟨(h.push { cls := .type "tuple", data := .seq #[] }).push { cls := .ref C, data := .fields #[.ref h.objs.size, .none, .none, .none, .bool false, .none] }, g, d, t, os⟩) :
    codeAny (model prog w) A (.builtin newId ⟨[.ref C], [kw]⟩) R ⟨h, g, d, t, os⟩ := by
  have hends := F.ends
  have cB : (Value.ref C :: bm).contains (.type B) = true := by rw [List.contains_cons, hT, F.hasB, Bool.or_true]
  have cA : (Value.ref C :: bm).contains (.type "AttributeError") = false := by rw [List.contains_cons, hT, F.noAttr]; rfl
  have cN : (Value.ref C :: bm).contains (.type "NameError") = false := by rw [List.contains_cons, hT, F.noName]; rfl
  refine codeAny_builtinAt F.entry ?_
  unfold Builtin.«BaseException.__new__»; refine wpAt_bind ?_
  show wpAt _ _ _ (stack >>= _) _ _ _; refine wpAt_bind (wpAt_stack fun p below => wpAt_of_wpAny ?_)
  wp_walk
  refine wpAt_of_wpAny ?_
  rw [F.owner]
  repeat (first | with_reducible refine wpAny_madeHere_exc F.canon hC ?_ | with_reducible refine wpAny_loadPart_at hC ?_ | (with_reducible refine wpAny_isSubtype_exc hC ?_; first | rw [cB] | rw [cA] | rw [cN]) | wp_step)
  show R _ _; rw [Heap.size_push]
  exact hq
theorem check_new_ownK {M : Model} (F : ExcBaseFacts B newId initId bmB) (hT : ∀ X : String, bm.contains (.type X) = bmB.contains (.type X)) {kw : Str × Value} {Q : Unit → Shared → Prop}
    (hC : h.get? C = some (excClassObj nm q C N bs bm hdct sn sub ab col dd k0 k1 k2 k3 k5 newId)) (hq : Q () ⟨h, g, d, t, os⟩) : wpAny M A (checkBuiltinCall newId ⟨[.ref C], [kw]⟩) Q E ⟨h, g, d, t, os⟩ := by
  have cB : (Value.ref C :: bm).contains (.type B) = true := by rw [List.contains_cons, hT, F.hasB, Bool.or_true]
  have hstar := F.noStar
  simp only [checkBuiltinCall, F.newKind, F.newSplit, F.newRow]
  repeat (first | refine wpAny_loadPart_at hC ?_ | (refine wpAny_isSubtype_exc hC ?_; rw [cB]) | refine wpAny_staticBase_exc hC ?_ | refine wpAny_madeBy_exc hC ?_ | simp only [bne_self_eq_false, Bool.false_eq_true, if_false] | wp_step)
  exact hq
theorem type_call_ownK (F : ExcBaseFacts B newId initId bmB) (hT : ∀ X : String, bm.contains (.type X) = bmB.contains (.type X)) {kw : Str × Value} {fI : Addr} {Q : Fin → Shared → Prop}
    (hC : h.get? C = some (excClassObj nm q C N bs bm hdct sn sub ab col dd k0 k1 k2 k3 k5 newId))
    (hi : W.Looks (model prog w) h (typeLookup (.ref C) "__init__") (some (.ref fI))) (hb : ∀ self, W.Looks (model prog w) h (bindSpecial (.ref fI) self) (.ref fI, [self]))
    (hq : codeAny (model prog w) A (.call (.ref fI) ⟨[.ref (h.objs.size + 1)], [kw]⟩) (fun r s' => match r with | .ok (.ret v) => v = .none ∧ Q (.done (.ret (.ref (h.objs.size + 1)))) s' | .ok _ => False | .error e => E e s')
      ⟨(h.push (W.kdv_tup [])).push (excO C h.objs.size), g, d, t, os⟩) :
    wpAny (model prog w) A (Builtin.«type.__call__» ⟨[.ref C], [kw]⟩) Q E ⟨h, g, d, t, os⟩ := by
  repeat (first | with_reducible refine wpAny_loadPart_at hC ?_ | with_reducible refine wpAny_madeBy_exc hC ?_ | wp_step)
  refine codeAny_call_builtin_code (Code.quiet_builtin _ F.quiet) (check_new_ownK F hT hC (new_ownK F hT hC ?_))
  show wpAny _ _ _ _ _ _
  have kp : ∀ b o, h.get? b = some o → ((h.push (W.kdv_tup [])).push (excO C h.objs.size)).get? b = some o := fun b o e => Heap.get?_push_of_some _ (Heap.get?_push_of_some _ e)
  have hC2 := kp _ _ hC
  have there : ((h.push (W.kdv_tup [])).push (excO C h.objs.size)).get? (h.objs.size + 1) = some (excO C h.objs.size) := by heap_get
  have cC : (Value.ref C :: bm).contains (.ref C) = true := by simp
  have i1 := hi.keeps kp
  have b1 := (hb (.ref (h.objs.size + 1))).keeps kp
  unfold isInstance
  repeat (first | with_reducible refine wpAny_loadPart_at there ?_ | (with_reducible refine wpAny_isSubtype_exc hC2 ?_; rw [cC]) | wp_step)
  show wpAny _ _ (typeLookup (.ref C) _) _ _ _; refine i1.at (wpAny_holding (wpAny_bind (b1.at ?_)))
  refine wpAny_bind (wpAny_call (codeAny_mono hq fun r s' z => ?_))
  rcases r with e | (v | _ | _ | _) <;> first | exact z | exact z.elim | skip
  obtain ⟨rfl, z⟩ := z
  first
    | exact wpAny_pure (wpAny_pure z)
    | (wp_walk; exact z)
theorem call_ownK (F : ExcBaseFacts B newId initId bmB) (hT : ∀ X : String, bm.contains (.type X) = bmB.contains (.type X)) {kw : Str × Value} {fI : Addr}
    (hC : h.get? C = some (excClassObj nm q C N bs bm hdct sn sub ab col dd k0 k1 k2 k3 k5 newId))
    (hi : W.Looks (model prog w) h (typeLookup (.ref C) "__init__") (some (.ref fI))) (hb : ∀ self, W.Looks (model prog w) h (bindSpecial (.ref fI) self) (.ref fI, [self]))
    (hq : codeAny (model prog w) (A.under (.builtin "type.__call__" ⟨[.ref C], [kw]⟩)) (.call (.ref fI) ⟨[.ref (h.objs.size + 1)], [kw]⟩) (W.InitBack (h.objs.size + 1) R) ⟨(h.push (W.kdv_tup [])).push (excO C h.objs.size), g, d, t, os⟩) :
    codeAny (model prog w) A (.call (.ref C) ⟨[], [kw]⟩) R ⟨h, g, d, t, os⟩ := by
  have f1 := tc_lookup
  have f2 := tc_bind (.ref C)
  have isT : (⟨h, g, d, t, os⟩ : Shared).TypeIs (.ref C) "type" := ⟨_, hC, rfl⟩
  refine codeAny_of_tree ?_
  show wpAny _ _ (callAny (.ref C) _) _ _ _
  repeat (any_goals (first | assumption | with_reducible refine wpAny_loadPart_at hC ?_ | wp_step))
  refine ⟨rfl, ?_⟩
  refine codeAny_call_builtin_at (Code.quiet_builtin _ (by decide +kernel)) entry_typeCall (wpAny_check_type_call_sub hC (type_call_ownK F hT hC hi hb ?_))
  exact codeAny_mono hq fun r s' z => by rcases r with e | (v | _ | _ | _) <;> exact z
end
end HandSPX
end PySem
set_option Elab.async false
set_option linter.all false
set_option maxRecDepth 100000
set_option maxHeartbeats 4000000
namespace DD
open PySem PySem.Spec PyProof.Rows L2
section
variable {X : Cx} {f : Str} {C fI : Addr} {k : Nat} {fd : FuncData} {ps : List Str}
theorem mk_turn {pins : List (Addr × Obj)} {σ : L2.St} {H : Hp} {s' : Shared} {a dx : Addr} {y : V} {Q : VK} (I : Inv X pins σ (upd (upd (upd H a (exo a C none)) dx (exd dx [(f, y)])) a (exo a C (some dx))) s') (ne : dx ≠ a)
    (q : Q (.ref a) (upd (upd H dx (.xd [(f, y)])) a (exH a (.ref C) (some dx)))) : EP X pins σ Q (.ref a) s' := by
  obtain ⟨mA, hn, hr⟩ := exd_at (dx := dx) (fs := [(f, y)]) I.hok (by rw [upd_ne ne, upd_same])
  have J := I.write (t' := s'.toks) (x := dx) (e := dx) (o := .xd [(f, y)]) (h' := s'.heap) (by rw [upd_ne ne, upd_same]; exact True.intro) (.inl rfl) (fun b u _ e => e) (by obtain ⟨o, _, _, e, _⟩ := hn; exact ⟨o, e⟩) ⟨mA, hn, hr⟩
  obtain ⟨t1, e1⟩ := exo_at (e := a) (C := C) (d := some dx) J.hok (by rw [upd_ne (Ne.symm ne), upd_same])
  have J2 := J.write (t' := s'.toks) (x := a) (e := a) (o := exH a (.ref C) (some dx)) (h' := s'.heap) (by rw [upd_ne (Ne.symm ne), upd_same]; exact True.intro) (.inl rfl) (fun b u _ e => e) ⟨_, e1⟩ (exH_ok e1 ⟨rfl, rfl⟩ rfl)
  have eH : upd (upd (upd (upd (upd H a (exo a C none)) dx (exd dx [(f, y)])) a (exo a C (some dx))) dx (.xd [(f, y)])) a (exH a (.ref C) (some dx)) = upd (upd H dx (.xd [(f, y)])) a (exH a (.ref C) (some dx)) := by
    funext b
    by_cases hb : b = a
    · rw [hb, upd_same, upd_same]
    · rw [upd_ne hb, upd_ne hb]
      by_cases hd : b = dx
      · rw [hd, upd_same, upd_same]
      · rw [upd_ne hd, upd_ne hb, upd_ne hd, upd_ne hb, upd_ne hd]
  rw [eH] at J2
  exact ⟨.ref a, _, J2, rfl, q⟩
theorem mk_call {pins : List (Addr × Obj)} {σ : L2.St} {H : Hp} {s : Shared} {y : V} {u : Value} {Q : VK} (T : OexC X.K C) (iC : PySem.W.findIn X.K (.ref C) "__init__" = some (some (.ref fI))) (tI : PySem.W.typeIn X.K (.ref fI) = some (.type "function")) (hno : PySem.W.findIn X.K (.ref C) f = some none)
    (F1 : FnOk X.prog X.w X.K X.mg X.base CX0 k fI fd ps (spInit f X.K)) (hr : Room (k + 1) X.A) (hb : Binds X.K fd ps []) (h2 : ps.length = 2) (I : Inv X pins σ H s) (r : RelV y u)
    (q : ∀ a dx, H a = none → H dx = none → dx ≠ a → Q (.ref a) (upd (upd H dx (.xd [(f, y)])) a (exH a (.ref C) (some dx)))) : wpAny (model X.prog X.w) X.A (call (.ref C) [u]) (EP X pins σ Q) X.xe s := by
  obtain ⟨nm, qn, N, bs, bm, sn, sub, ab, col, dd, k0, k1, k2, k3, k5, hC, hbm⟩ := T.cls
  obtain ⟨hp, g, dr, tk, os⟩ := s
  have hsz : hp.objs.size ≤ hp.objs.size + 1 := Nat.le_succ _
  have hn : H (hp.objs.size + 1) = none := I.hok.fresh hsz
  have kk : ∀ b o, hp.get? b = some o → ((hp.push (PySem.W.kdv_tup [u])).push (PySem.HandSPX.excO C hp.objs.size)).get? b = some o := fun b o e => Heap.get?_push_of_some _ (Heap.get?_push_of_some _ e)
  have there : ((hp.push (PySem.W.kdv_tup [u])).push (PySem.HandSPX.excO C hp.objs.size)).get? (hp.objs.size + 1) = some (PySem.HandSPX.excO C hp.objs.size) := by heap_get
  have I2 : Inv X pins σ (upd H (hp.objs.size + 1) (exo (hp.objs.size + 1) C none)) ⟨(hp.push (PySem.W.kdv_tup [u])).push (PySem.HandSPX.excO C hp.objs.size), g, dr, tk, os⟩ :=
    I.laid (t' := tk) (a := hp.objs.size + 1) (o := exo (hp.objs.size + 1) C none) (h' := (hp.push (PySem.W.kdv_tup [u])).push (PySem.HandSPX.excO C hp.objs.size)) kk hsz (exo_ok there)
  have r2 : Vals [V.ref (hp.objs.size + 1), y] [Value.ref (hp.objs.size + 1), u] := .cons rfl (.cons r .nil)
  have hsp : spInit f X.K [V.ref (hp.objs.size + 1), y] (upd H (hp.objs.size + 1) (exo (hp.objs.size + 1) C none)) (fun v H2 => v = .non ∧ ∃ dx, H dx = none ∧ dx ≠ hp.objs.size + 1 ∧ H2 = upd (upd (upd H (hp.objs.size + 1) (exo (hp.objs.size + 1) C none)) dx (exd dx [(f, y)])) (hp.objs.size + 1) (exo (hp.objs.size + 1) C (some dx))) (fun _ _ _ => False) :=
    ⟨_, C, y, rfl, T, hno, upd_same, fun dx nd ne => ⟨rfl, dx, by rw [upd_ne ne] at nd; exact nd, ne, rfl⟩⟩
  refine wpAny_call (PySem.HandSPX.call_own F.excBase_ValueError (fun Y => PySem.HandSPX.refsVE_contains Y bm hbm) (I.kIn _ _ hC) (PySem.W.looks_findIn I.kIn iC) (fun self => PySem.W.bind_fn I.kIn self tI) (by simp [sizeLine_eq])
    (codeAny_mono (F1.run _ X.stack _ _ ⟨[Value.ref (hp.objs.size + 1), u], []⟩ [Value.ref (hp.objs.size + 1), u] _ _ (fun _ _ _ => False) (hr.make C [u] []) (I2.env0.make C [u] []) (by have := hb ⟨(hp.push (PySem.W.kdv_tup [u])).push (PySem.HandSPX.excO C hp.objs.size), g, dr, tk, os⟩ [Value.ref (hp.objs.size + 1), u] I2.kIn (by rw [h2]; rfl); rw [List.append_nil] at this; exact this) r2 hsp) fun r s' hq' => ?_))
  cases r with
  | error er => exact pass0 pins σ _ _ er s' I2 hq'
  | ok fl =>
    cases fl with
    | ret v =>
      obtain ⟨w1, H2, J, rv, ev, dx, nd, ne, eH⟩ := I2.after hq'
      subst ev eH
      exact ⟨rv, mk_turn J ne (q _ dx hn nd ne)⟩
    | next => exact False.elim hq'
    | brk => exact False.elim hq'
    | cont => exact False.elim hq'
theorem mk_callK {pins : List (Addr × Obj)} {σ : L2.St} {H : Hp} {s : Shared} {y : V} {u : Value} {Q : VK} (T : OexC X.K C) (iC : PySem.W.findIn X.K (.ref C) "__init__" = some (some (.ref fI))) (tI : PySem.W.typeIn X.K (.ref fI) = some (.type "function")) (hno : PySem.W.findIn X.K (.ref C) f = some none)
    (F1 : FnOk X.prog X.w X.K X.mg X.base CX0 k fI fd ps (spInit f X.K)) (hr : Room (k + 1) X.A) {pn : Str} (hb : ∀ (s : Shared) (a u : Value), X.K.In s.heap → BindsTo s fd ⟨[a], [(pn, u)]⟩ (ps.zip [a, u])) (I : Inv X pins σ H s) (r : RelV y u)
    (q : ∀ a dx, H a = none → H dx = none → dx ≠ a → Q (.ref a) (upd (upd H dx (.xd [(f, y)])) a (exH a (.ref C) (some dx)))) : wpAny (model X.prog X.w) X.A (call (.ref C) [] [(pn, u)]) (EP X pins σ Q) X.xe s := by
  obtain ⟨nm, qn, N, bs, bm, sn, sub, ab, col, dd, k0, k1, k2, k3, k5, hC, hbm⟩ := T.cls
  obtain ⟨hp, g, dr, tk, os⟩ := s
  have hsz : hp.objs.size ≤ hp.objs.size + 1 := Nat.le_succ _
  have hn : H (hp.objs.size + 1) = none := I.hok.fresh hsz
  have kk : ∀ b o, hp.get? b = some o → ((hp.push (PySem.W.kdv_tup [])).push (PySem.HandSPX.excO C hp.objs.size)).get? b = some o := fun b o e => Heap.get?_push_of_some _ (Heap.get?_push_of_some _ e)
  have there : ((hp.push (PySem.W.kdv_tup [])).push (PySem.HandSPX.excO C hp.objs.size)).get? (hp.objs.size + 1) = some (PySem.HandSPX.excO C hp.objs.size) := by heap_get
  have I2 : Inv X pins σ (upd H (hp.objs.size + 1) (exo (hp.objs.size + 1) C none)) ⟨(hp.push (PySem.W.kdv_tup [])).push (PySem.HandSPX.excO C hp.objs.size), g, dr, tk, os⟩ :=
    I.laid (t' := tk) (a := hp.objs.size + 1) (o := exo (hp.objs.size + 1) C none) (h' := (hp.push (PySem.W.kdv_tup [])).push (PySem.HandSPX.excO C hp.objs.size)) kk hsz (exo_ok there)
  have r2 : Vals [V.ref (hp.objs.size + 1), y] [Value.ref (hp.objs.size + 1), u] := .cons rfl (.cons r .nil)
  have hsp : spInit f X.K [V.ref (hp.objs.size + 1), y] (upd H (hp.objs.size + 1) (exo (hp.objs.size + 1) C none)) (fun v H2 => v = .non ∧ ∃ dx, H dx = none ∧ dx ≠ hp.objs.size + 1 ∧ H2 = upd (upd (upd H (hp.objs.size + 1) (exo (hp.objs.size + 1) C none)) dx (exd dx [(f, y)])) (hp.objs.size + 1) (exo (hp.objs.size + 1) C (some dx))) (fun _ _ _ => False) :=
    ⟨_, C, y, rfl, T, hno, upd_same, fun dx nd ne => ⟨rfl, dx, by rw [upd_ne ne] at nd; exact nd, ne, rfl⟩⟩
  refine wpAny_call (PySem.HandSPX.call_ownK F.excBase_ValueError (fun Y => PySem.HandSPX.refsVE_contains Y bm hbm) (I.kIn _ _ hC) (PySem.W.looks_findIn I.kIn iC) (fun self => PySem.W.bind_fn I.kIn self tI)
    (codeAny_mono (F1.run _ X.stack _ _ ⟨[Value.ref (hp.objs.size + 1)], [(pn, u)]⟩ [Value.ref (hp.objs.size + 1), u] _ _ (fun _ _ _ => False) (hr.make C [] [(pn, u)]) (I2.env0.make C [] [(pn, u)]) (hb _ _ _ I2.kIn) r2 hsp) fun r s' hq' => ?_))
  cases r with
  | error er => exact pass0 pins σ _ _ er s' I2 hq'
  | ok fl =>
    cases fl with
    | ret v =>
      obtain ⟨w1, H2, J, rv, ev, dx, nd, ne, eH⟩ := I2.after hq'
      subst ev eH
      exact ⟨rv, mk_turn J ne (q _ dx hn nd ne)⟩
    | next => exact False.elim hq'
    | brk => exact False.elim hq'
    | cont => exact False.elim hq'

/-- C(v), an own error as a value -/
def dMk (n f : Str) (g : DA) : DE := fun sl io => (g sl io).bind fun p => match p.1 with
  | [.dat v] => if im v = true then some (.dat (exData ⟨n, some (f, v)⟩), p.2) else none
  | _ => none
theorem mk_dd {K : PySem.W.Frag} {T : List Addr} {H1 : Hp} {n : Str} {y : V} {v : D} {a dx : Addr} (hn : PySem.W.nsIn K mainGlobals n = some (some (.ref C))) (na : H1 a = none) (nd : H1 dx = none) (ne : dx ≠ a) (aT : a ∉ T) (dT : dx ∉ T) (h1 : Dd K (out T H1) y v) :
    Ex H1 (upd (upd H1 dx (.xd [(f, y)])) a (exH a (.ref C) (some dx))) ∧ Dd K (out T (upd (upd H1 dx (.xd [(f, y)])) a (exH a (.ref C) (some dx)))) (.ref a) (exData ⟨n, some (f, v)⟩) := by
  have ex : Ex H1 (upd (upd H1 dx (.xd [(f, y)])) a (exH a (.ref C) (some dx))) := fun b o e => by
    rw [upd_ne (fun z => by rw [z, na] at e; cases e), upd_ne (fun z => by rw [z, nd] at e; cases e)]; exact e
  exact ⟨ex, .exf hn (by rw [out_not aT, upd_same]) (by rw [out_not dT, upd_ne ne, upd_same]) (h1.mono (Stp.of_ex (T := T) ex).out)⟩
theorem pd_mk {x : Str} {p pos : Pos} {e : Expr} {g : DA} (T : OexC X.K C) (iC : PySem.W.findIn X.K (.ref C) "__init__" = some (some (.ref fI))) (tI : PySem.W.typeIn X.K (.ref fI) = some (.type "function")) (hno : PySem.W.findIn X.K (.ref C) f = some none) (hn : PySem.W.nsIn X.K mainGlobals x = some (some (.ref C)))
    (F1 : FnOk X.prog X.w X.K X.mg X.base CX0 k fI fd ps (spInit f X.K)) (hr : Room (k + 1) X.A) (hb : Binds X.K fd ps []) (h2 : ps.length = 2) (hg : Gl X x) (hm : X.mg x = some (.ref C)) (ha : PA X [e] (tA X.K g))
    (hdb : (x == ("__debug__" : Str)) = false := by decide) (he : starEach [e] X.env = (false, eval e X.env) :: starEach [] X.env := by rfl) (hpl : (backTo pos (starEach [] X.env)).any (·.1) = false := by rfl) : PE X (.Call (.Name x p) [e] [] pos) (tE X.K (dMk x f g)) := by
  refine ⟨fun pins s σ H Q I hh => ?_⟩
  obtain ⟨Tl, sl, io, hR, r, io', e0, q⟩ := hh
  unfold dMk at e0
  simp only [Option.bind_eq_some_iff, Prod.exists] at e0
  obtain ⟨as, io1, e1, e2⟩ := e0
  split at e2
  · rename_i v
    split at e2
    · cases e2
      refine wpAny_Call_Name_kw (ld_glob I hg hm ?_ hdb)
      refine PySem.W.callWith_K (h₀ := X.base) I.ok.mod.kin T.kC (thn (ha.run pos pins s σ H (fun vs H1 => ∃ y, vs = [y] ∧ Stp Tl H H1 ∧ IoOk X.K Tl io' H1 ∧ Dd X.K (out Tl H1) y v) I ⟨Tl, sl, io, hR, _, _, e1, fun vs H1 s1 i1 v1 => ?_⟩) fun us s1 ⟨vs, H1, I1, r1, y, ev, st, i1, hv⟩ => ⟨I1.kIn, ?_⟩) he hpl
      · cases v1 with
        | cons h1 t1 => cases t1; exact ⟨_, rfl, s1, i1, h1⟩
      · subst ev
        cases r1 with
        | cons ru rn =>
          cases rn
          exact mk_call T iC tI hno F1 hr hb h2 I1 ru fun a dx na nd ne => by
            obtain ⟨ex, dd⟩ := mk_dd (f := f) hn na nd ne (i1.fresh na) (i1.fresh nd) hv
            exact q _ _ (st.trans (Stp.of_ex ex)) (i1.ex ex) dd
    · cases e2
  · cases e2
theorem pd_mkK {x pn : Str} {p pos : Pos} {kws : List Keyword} {g : DA} (T : OexC X.K C) (iC : PySem.W.findIn X.K (.ref C) "__init__" = some (some (.ref fI))) (tI : PySem.W.typeIn X.K (.ref fI) = some (.type "function")) (hno : PySem.W.findIn X.K (.ref C) f = some none) (hn : PySem.W.nsIn X.K mainGlobals x = some (some (.ref C)))
    (F1 : FnOk X.prog X.w X.K X.mg X.base CX0 k fI fd ps (spInit f X.K)) (hr : Room (k + 1) X.A) (hb : ∀ (s : Shared) (a u : Value), X.K.In s.heap → BindsTo s fd ⟨[a], [(pn, u)]⟩ (ps.zip [a, u])) (hg : Gl X x) (hm : X.mg x = some (.ref C)) (hkw : PK X kws (tA X.K g))
    (hall : (backToKw pos (keywordEach kws X.env)).all (·.1.isSome) = true := by rfl) (hks : (backToKw pos (keywordEach kws X.env)).filterMap (·.1) = [pn] := by rfl)
    (hdb : (x == ("__debug__" : Str)) = false := by decide) (hpl : ((backTo pos (starEach [] X.env)).any (·.1) || (backToKw pos (keywordEach kws X.env)).any (·.1.isNone)) = false := by rfl) : PE X (.Call (.Name x p) [] kws pos) (tE X.K (dMk x f g)) := by
  refine ⟨fun pins s σ H Q I hh => ?_⟩
  obtain ⟨Tl, sl, io, hR, r, io', e0, q⟩ := hh
  unfold dMk at e0
  simp only [Option.bind_eq_some_iff, Prod.exists] at e0
  obtain ⟨as, io1, e1, e2⟩ := e0
  split at e2
  · rename_i v
    split at e2
    · cases e2
      refine wpAny_Call_Name_kw (ld_glob I hg hm ?_ hdb)
      refine PySem.W.callWith_KW0 (h₀ := X.base) I.ok.mod.kin T.kC hall (thn (hkw.run pos pins s σ H (fun vs H1 => ∃ y, vs = [y] ∧ Stp Tl H H1 ∧ IoOk X.K Tl io' H1 ∧ Dd X.K (out Tl H1) y v) I ⟨Tl, sl, io, hR, _, _, e1, fun vs H1 s1 i1 v1 => ?_⟩) fun us s1 ⟨vs, H1, I1, r1, y, ev, st, i1, hv⟩ => ⟨I1.kIn, ?_⟩) hpl
      · cases v1 with
        | cons h1 t1 => cases t1; exact ⟨_, rfl, s1, i1, h1⟩
      · subst ev
        cases r1 with
        | cons ru rn =>
          cases rn
          rw [hks]
          exact mk_callK T iC tI hno F1 hr hb I1 ru fun a dx na nd ne => by
            obtain ⟨ex, dd⟩ := mk_dd (f := f) hn na nd ne (i1.fresh na) (i1.fresh nd) hv
            exact q _ _ (st.trans (Stp.of_ex ex)) (i1.ex ex) dd
    · cases e2
  · cases e2
end
end DD
set_option Elab.async false
set_option linter.all false
set_option maxRecDepth 100000
/-! DD: words for the plain part: how the denotations evaluate. -/
namespace DD
open PySem L2
section
variable {sl : List S} {io : IO} {f g h : DE} {t u : DT} {a b : DA}
/- continuations: constants, so that simp does not walk into what is not yet run -/
def varK (io : IO) : Option S → Option (A × IO)
  | some (.dat d) => some (.dat d, io)
  | some (.ref k) => some (.ref k, io)
  | _ => none
@[simp] theorem varK_dat {d : D} : varK io (some (.dat d)) = some (.dat d, io) := rfl
@[simp] theorem varK_ref {k : Nat} : varK io (some (.ref k)) = some (.ref k, io) := rfl
@[simp] theorem dVar_ap {i : Nat} : dVar i sl io = varK io sl[i]? := rfl
@[simp] theorem dC_ap {d : D} : dC d sl io = some (.dat d, io) := rfl
def opL (o : D → D → Option A) (a : A) : A × IO → Option (A × IO) := fun q => (vw q.2 a).bind fun x => (vw q.2 q.1).bind fun y => (o x y).map fun r => (r, q.2)
def opK (o : D → D → Option A) (g : DE) (sl : List S) : A × IO → Option (A × IO) := fun p => (g sl p.2).bind (opL o p.1)
@[simp] theorem opL_ap {o : D → D → Option A} {a b : A} : opL o a (b, io) = (vw io a).bind fun x => (vw io b).bind fun y => (o x y).map fun r => (r, io) := rfl
@[simp] theorem opK_ap {o : D → D → Option A} {a : A} : opK o g sl (a, io) = (g sl io).bind (opL o a) := rfl
@[simp] theorem dOp_ap {o : D → D → Option A} : dOp o f g sl io = (f sl io).bind (opK o g sl) := rfl
def tstK : A × IO → Option (Bool × IO) := fun p => match p.1 with
  | .dat (.bool b) => some (b, p.2)
  | _ => none
@[simp] theorem tstK_ap {b : Bool} : tstK (.dat (.bool b), io) = some (b, io) := rfl
@[simp] theorem dTst_ap : dTst f sl io = (f sl io).bind tstK := rfl
def truK : A × IO → Option (Bool × IO) := fun p => (vw p.2 p.1).bind fun d => (truD d).map fun b => (b, p.2)
@[simp] theorem truK_ap {a : A} : truK (a, io) = (vw io a).bind fun d => (truD d).map fun b => (b, io) := rfl
@[simp] theorem dTru_ap : dTru f sl io = (f sl io).bind truK := rfl
def negK : A × IO → Option (A × IO) := fun p => match p.1 with
  | .dat (.int i) => some (.dat (.int (-i)), p.2)
  | _ => none
@[simp] theorem negK_ap {i : Int} : negK (.dat (.int i), io) = some (.dat (.int (-i)), io) := rfl
@[simp] theorem dNeg_ap : dNeg f sl io = (f sl io).bind negK := rfl
@[simp] theorem dNotT_ap : dNotT t sl io = (t sl io).map fun p => (!p.1, p.2) := rfl
def andK (u : DT) (sl : List S) : Bool × IO → Option (Bool × IO) := fun p => if p.1 then u sl p.2 else some (false, p.2)
@[simp] theorem andK_ap {b : Bool} : andK u sl (b, io) = if b then u sl io else some (false, io) := rfl
@[simp] theorem dAndT_ap : dAndT t u sl io = (t sl io).bind (andK u sl) := rfl
def orK (u : DT) (sl : List S) : Bool × IO → Option (Bool × IO) := fun p => if p.1 then some (true, p.2) else u sl p.2
@[simp] theorem orK_ap {b : Bool} : orK u sl (b, io) = if b then some (true, io) else u sl io := rfl
@[simp] theorem dOrT_ap : dOrT t u sl io = (t sl io).bind (orK u sl) := rfl
def notK : A × IO → Option (A × IO) := fun p => match p.1 with
  | .dat (.bool b) => some (.dat (.bool (!b)), p.2)
  | _ => none
@[simp] theorem notK_ap {b : Bool} : notK (.dat (.bool b), io) = some (.dat (.bool (!b)), io) := rfl
@[simp] theorem dNotV_ap : dNotV f sl io = (f sl io).bind notK := rfl
def andW (g : DE) (sl : List S) : A × IO → Option (A × IO) := fun p => match p.1 with
  | .dat (.bool true) => g sl p.2
  | .dat (.bool false) => some (.dat (.bool false), p.2)
  | _ => none
@[simp] theorem andW_ap {b : Bool} : andW g sl (.dat (.bool b), io) = if b then g sl io else some (.dat (.bool false), io) := by cases b <;> rfl
@[simp] theorem dAndV_ap : dAndV f g sl io = (f sl io).bind (andW g sl) := rfl
def orW (g : DE) (sl : List S) : A × IO → Option (A × IO) := fun p => match p.1 with
  | .dat (.bool false) => g sl p.2
  | .dat (.bool true) => some (.dat (.bool true), p.2)
  | _ => none
@[simp] theorem orW_ap {b : Bool} : orW g sl (.dat (.bool b), io) = if b then some (.dat (.bool true), io) else g sl io := by cases b <;> rfl
@[simp] theorem dOrV_ap : dOrV f g sl io = (f sl io).bind (orW g sl) := rfl
def ifeK (f g : DE) (sl : List S) : Bool × IO → Option (A × IO) := fun p => if p.1 then f sl p.2 else g sl p.2
@[simp] theorem ifeK_ap {b : Bool} : ifeK f g sl (b, io) = if b then f sl io else g sl io := rfl
@[simp] theorem dIfE_ap : dIfE t f g sl io = (t sl io).bind (ifeK f g sl) := rfl
def chM (o' : D → D → Option A) (b : A) : A × IO → Option (A × IO) := fun z => (vw z.2 b).bind fun y' => (vw z.2 z.1).bind fun w => (o' y' w).map fun r' => (r', z.2)
def chL (o o' : D → D → Option A) (h : DE) (sl : List S) (a : A) : A × IO → Option (A × IO) := fun q => (vw q.2 a).bind fun x => (vw q.2 q.1).bind fun y => (o x y).bind fun r => match r with
  | .dat (.bool true) => (h sl q.2).bind (chM o' q.1)
  | .dat (.bool false) => some (.dat (.bool false), q.2)
  | _ => none
def chK (o o' : D → D → Option A) (g h : DE) (sl : List S) : A × IO → Option (A × IO) := fun p => (g sl p.2).bind (chL o o' h sl p.1)
def chN (o' : D → D → Option A) (h : DE) (sl : List S) (b : A) (io : IO) : A → Option (A × IO)
  | .dat (.bool true) => (h sl io).bind (chM o' b)
  | .dat (.bool false) => some (.dat (.bool false), io)
  | _ => none
@[simp] theorem chM_ap {o' : D → D → Option A} {a b : A} : chM o' b (a, io) = (vw io b).bind fun y' => (vw io a).bind fun w => (o' y' w).map fun r' => (r', io) := rfl
@[simp] theorem chN_ap {o' : D → D → Option A} {a : A} {b : Bool} : chN o' h sl a io (.dat (.bool b)) = if b then (h sl io).bind (chM o' a) else some (.dat (.bool false), io) := by cases b <;> rfl
@[simp] theorem chL_ap {o o' : D → D → Option A} {a b : A} : chL o o' h sl a (b, io) = (vw io a).bind fun x => (vw io b).bind fun y => (o x y).bind (chN o' h sl b io) := by
  unfold chL chN
  rfl
@[simp] theorem chK_ap {o o' : D → D → Option A} {a : A} : chK o o' g h sl (a, io) = (g sl io).bind (chL o o' h sl a) := rfl
@[simp] theorem dChain_ap {o o' : D → D → Option A} : dChain o o' f g h sl io = (f sl io).bind (chK o o' g h sl) := rfl
@[simp] theorem dNo_ap : dNo sl io = some (none, io) := rfl
def partK : A × IO → Option (Option Int × IO) := fun p => match p.1 with
  | .dat (.int i) => some (some i, p.2)
  | _ => none
@[simp] theorem partK_ap {i : Int} : partK (.dat (.int i), io) = some (some i, io) := rfl
@[simp] theorem dPart_ap : dPart f sl io = (f sl io).bind partK := rfl
def slM (a : A) (l : Option Int) : Option Int × IO → Option (A × IO) := fun u => (vw u.2 a).bind fun d => (sliceD d l u.1).map fun r => (r, u.2)
def slL (hi : DO) (sl : List S) (a : A) : Option Int × IO → Option (A × IO) := fun l => (hi sl l.2).bind (slM a l.1)
def slK (lo hi : DO) (sl : List S) : A × IO → Option (A × IO) := fun p => (lo sl p.2).bind (slL hi sl p.1)
@[simp] theorem slM_ap {a : A} {l u : Option Int} : slM a l (u, io) = (vw io a).bind fun d => (sliceD d l u).map fun r => (r, io) := rfl
@[simp] theorem slL_ap {hi : DO} {a : A} {l : Option Int} : slL hi sl a (l, io) = (hi sl io).bind (slM a l) := rfl
@[simp] theorem slK_ap {lo hi : DO} {a : A} : slK lo hi sl (a, io) = (lo sl io).bind (slL hi sl a) := rfl
@[simp] theorem dSl_ap {lo hi : DO} : dSl f lo hi sl io = (f sl io).bind (slK lo hi sl) := rfl
@[simp] theorem dScr_ap {i : Nat} {lo hi : DO} : dScr i lo hi sl io = match sl[i]? with
  | some (.scr ns) => (lo sl io).bind fun l => (hi sl l.2).map fun u => (.tmp (cutD (ns.map .int) l.1 u.1), u.2)
  | _ => none := rfl
@[simp] theorem dNil_ap : dNil sl io = some ([], io) := rfl
def consK (a : DA) (sl : List S) : A × IO → Option (List A × IO) := fun p => (a sl p.2).map fun q => (p.1 :: q.1, q.2)
@[simp] theorem consK_ap {x : A} : consK a sl (x, io) = (a sl io).map fun q => (x :: q.1, q.2) := rfl
@[simp] theorem dCons_ap : dCons f a sl io = (f sl io).bind (consK a sl) := rfl
@[simp] theorem dTup_ap : dTup a sl io = (a sl io).bind fun p => (vwIs p.1).bind fun ds => if ds.length ≤ LIM then some (.dat (.tuple ds), p.2) else none := rfl
@[simp] theorem dLst_ap : dLst a sl io = (a sl io).bind fun p => (vwIs p.1).bind fun ds => if ds.length ≤ LIM then some (.tmp ds, p.2) else none := rfl
@[simp] theorem dCall_ap {o : List D → Option A} : dCall o a sl io = (a sl io).bind fun p => (vws p.2 p.1).bind fun ds => (o ds).map fun r => (r, p.2) := rfl
@[simp] theorem dFn_ap {o : List D → Option A} : dFn o a sl io = (a sl io).bind fun p => (vws p.2 p.1).bind fun ds => (o ds).map fun r => (r, p.2) := rfl
@[simp] theorem dIsi_ap {ty : String} : dIsi ty f sl io = (f sl io).bind fun p => (vw p.2 p.1).bind fun d => (isiD ty d).map fun r => (r, p.2) := rfl
def methK (o : Str → List D → Option A) (a : DA) (sl : List S) : A × IO → Option (A × IO) := fun p => match p.1 with
  | .dat (.str z) => (a sl p.2).bind fun q => (vws q.2 q.1).bind fun ds => (o z ds).map fun r => (r, q.2)
  | _ => none
@[simp] theorem methK_ap {o : Str → List D → Option A} {z : Str} : methK o a sl (.dat (.str z), io) = (a sl io).bind fun q => (vws q.2 q.1).bind fun ds => (o z ds).map fun r => (r, q.2) := rfl
@[simp] theorem dMeth_ap {o : Str → List D → Option A} : dMeth o f a sl io = (f sl io).bind (methK o a sl) := rfl
def fnJK (F : List D → List D → Option (A × List D)) : List A × IO → Option (A × IO) := fun p => match p.1 with
  | .ref k :: as => (p.2[k]?).bind fun js => (vwNs p.2 k as).bind fun ds => (F js ds).map fun r => (r.1, p.2.set k r.2)
  | _ => none
@[simp] theorem fnJK_ap {F : List D → List D → Option (A × List D)} {k : Nat} {as : List A} : fnJK F (.ref k :: as, io) = (io[k]?).bind fun js => (vwNs io k as).bind fun ds => (F js ds).map fun r => (r.1, io.set k r.2) := rfl
@[simp] theorem dFnJ_ap {F : List D → List D → Option (A × List D)} : dFnJ F a sl io = (a sl io).bind (fnJK F) := rfl
@[simp] theorem dFlip_ap : dFlip a sl io = (a sl io).map fun p => (flip2 p.1, p.2) := rfl
@[simp] theorem dYes_ap : dYes sl io = some (true, io) := rfl
def lcK (tg : Tg) (t : DT) (f : DE) (sl : List S) : (List D × Chk) × IO → Option (A × IO) := fun p => (lcGo p.1.2 tg t f sl p.1.1 0 p.2).map fun z => (.tmp z.1, z.2)
@[simp] theorem lcK_ap {tg : Tg} {items : List D} {c : Chk} : lcK tg t f sl ((items, c), io) = (lcGo c tg t f sl items 0 io).map fun z => (.tmp z.1, z.2) := rfl
@[simp] theorem dLc_ap {it : DI} {tg : Tg} {vs : List Nat} : dLc it tg t f vs sl io = (it sl io).bind (lcK tg t f (wipeS sl vs)) := rfl
@[simp] theorem dItS_ap : dItS f sl io = (f sl io).bind fun p => (itemsOf p.2 p.1).map fun q => (q, p.2) := rfl
def rng1K : List A × IO → Option ((List D × Chk) × IO) := fun p => match p.1 with
  | [.dat (.int j)] => if fitB j = true then some ((rngItems 0 j.toNat, none), p.2) else none
  | _ => none
theorem rng1K_ap {j : Int} {n : Nat} (h : j = (n : Int)) (hn : n ≤ 1000000) : rng1K ([.dat (.int j)], io) = some ((rngItems 0 n, none), io) := by
  subst h
  unfold rng1K
  simp only []
  rw [if_pos (fitB_nat hn), Int.toNat_natCast]
@[simp] theorem dItR1_ap : dItR1 a sl io = (a sl io).bind rng1K := rfl
def rng2K : List A × IO → Option ((List D × Chk) × IO) := fun p => match p.1 with
  | [.dat (.int i), .dat (.int j)] => if fitB i = true ∧ fitB j = true then some ((rngItems i (j - i).toNat, none), p.2) else none
  | _ => none
theorem rng2K_ap {i j : Int} {n : Nat} (h : j = i + (n : Int)) (h0 : 0 ≤ i) (hj : j ≤ 1000000) : rng2K ([.dat (.int i), .dat (.int j)], io) = some ((rngItems i n, none), io) := by
  unfold rng2K
  simp only []
  rw [if_pos ⟨fitB_iff.mpr (by omega), fitB_iff.mpr (by omega)⟩, show (j - i).toNat = n by omega]
@[simp] theorem dItR2_ap : dItR2 a sl io = (a sl io).bind rng2K := rfl
section
variable {p q : DS}
@[simp] theorem dNext_ap : dNext sl io = some (.nx sl io) := rfl
def sqK (q : DS) : R → Option R := fun r => match r with
  | .nx sl' io' => q sl' io'
  | r => some r
@[simp] theorem sqK_nx : sqK q (.nx sl io) = q sl io := rfl
@[simp] theorem sqK_rt {x : A} : sqK q (.rt x io) = some (.rt x io) := rfl
@[simp] theorem sqK_bk : sqK q (.bk sl io) = some (.bk sl io) := rfl
@[simp] theorem sqK_ct : sqK q (.ct sl io) = some (.ct sl io) := rfl
@[simp] theorem dSeq_ap : dSeq p q sl io = (p sl io).bind (sqK q) := rfl
def ifK (p q : DS) (sl : List S) : Bool × IO → Option R := fun c => if c.1 then p sl c.2 else q sl c.2
@[simp] theorem ifK_ap {b : Bool} : ifK p q sl (b, io) = if b then p sl io else q sl io := rfl
@[simp] theorem dIf_ap : dIf t p q sl io = (t sl io).bind (ifK p q sl) := rfl
@[simp] theorem dRet_ap : dRet f sl io = (f sl io).map fun p => .rt p.1 p.2 := rfl
@[simp] theorem dRetN_ap : dRetN sl io = some (.rt (.dat .none) io) := rfl
@[simp] theorem dBreak_ap : dBreak sl io = some (.bk sl io) := rfl
@[simp] theorem dCont_ap : dCont sl io = some (.ct sl io) := rfl
@[simp] theorem dStuck_ap : dStuck sl io = none := rfl
@[simp] theorem dDrop_ap : dDrop f sl io = (f sl io).map fun p => .nx sl p.2 := rfl
@[simp] theorem dSet_ap {i : Nat} : dSet i f sl io = (f sl io).map fun p => .nx (sl.set i (slotOf p.1)) p.2 := rfl
def ownK (i : Nat) (sl : List S) : A × IO → Option R := fun p => match p.1 with
  | .tmp ds => if imAll ds = true then some (.nx (sl.set i (.ref p.2.length)) (p.2 ++ [ds])) else none
  | a => some (.nx (sl.set i (slotOf a)) p.2)
@[simp] theorem ownK_tmp {i : Nat} {ds : List D} : ownK i sl (.tmp ds, io) = if imAll ds = true then some (.nx (sl.set i (.ref io.length)) (io ++ [ds])) else none := rfl
@[simp] theorem ownK_dat {i : Nat} {d : D} : ownK i sl (.dat d, io) = some (.nx (sl.set i (.dat d)) io) := rfl
@[simp] theorem ownK_ref {i k : Nat} : ownK i sl (.ref k, io) = some (.nx (sl.set i (.ref k)) io) := rfl
@[simp] theorem dOwn_ap {i : Nat} : dOwn i f sl io = (f sl io).bind (ownK i sl) := rfl
@[simp] theorem dUnp_ap {tg : Tg} : dUnp tg f sl io = (f sl io).bind fun p => (vwI p.1).bind fun d => (tgGo tg d sl).map fun sl' => .nx sl' p.2 := rfl
def appL (sl : List S) (k : Nat) : A × IO → Option R := fun p => match p.1 with
  | .dat d => (p.2[k]?).bind fun js => if im d = true ∧ js.length < LIM then some (.nx sl (p.2.set k (js ++ [d]))) else none
  | _ => none
def appK (f : DE) (sl : List S) (io : IO) : Option S → Option R
  | some (.ref k) => (f sl io).bind (appL sl k)
  | _ => none
@[simp] theorem appL_ap {k : Nat} {d : D} : appL sl k (.dat d, io) = (io[k]?).bind fun js => if im d = true ∧ js.length < LIM then some (.nx sl (io.set k (js ++ [d]))) else none := rfl
@[simp] theorem appK_ap {k : Nat} : appK f sl io (some (.ref k)) = (f sl io).bind (appL sl k) := rfl
@[simp] theorem dApp_ap {i : Nat} : dApp i f sl io = appK f sl io sl[i]? := rfl
def putM (sl : List S) (d : A) (k : A) : A × IO → Option R := fun z => match d, k, z.1 with
  | .dat d, .ref k, .dat (.int i) => (z.2[k]?).bind fun js => (ixN js.length i).bind fun j => if im d = true then some (.nx sl (z.2.set k (js.set j d))) else none
  | _, _, _ => none
def putL (g : DE) (sl : List S) (d : A) : A × IO → Option R := fun q => (g sl q.2).bind (putM sl d q.1)
def putK (f g : DE) (sl : List S) : A × IO → Option R := fun p => (f sl p.2).bind (putL g sl p.1)
@[simp] theorem putM_ap {d : D} {k : Nat} {i : Int} : putM sl (.dat d) (.ref k) (.dat (.int i), io) = (io[k]?).bind fun js => (ixN js.length i).bind fun j => if im d = true then some (.nx sl (io.set k (js.set j d))) else none := rfl
@[simp] theorem putL_ap {x y : A} : putL g sl x (y, io) = (g sl io).bind (putM sl x y) := rfl
@[simp] theorem putK_ap {x : A} : putK f g sl (x, io) = (f sl io).bind (putL g sl x) := rfl
@[simp] theorem dPut_ap : dPut f g h sl io = (h sl io).bind (putK f g sl) := rfl
def augL (i : Nat) (o : Int → Int → Option Int) (a : Int) (sl : List S) : A × IO → Option R := fun p => match p.1 with
  | .dat (.int b) => (o a b).map fun c => .nx (sl.set i (.dat (.int c))) p.2
  | _ => none
def augK (i : Nat) (o : Int → Int → Option Int) (f : DE) (sl : List S) (io : IO) : Option S → Option R
  | some (.dat (.int a)) => (f sl io).bind (augL i o a sl)
  | _ => none
@[simp] theorem augL_ap {i : Nat} {o : Int → Int → Option Int} {a b : Int} : augL i o a sl (.dat (.int b), io) = (o a b).map fun c => .nx (sl.set i (.dat (.int c))) io := rfl
@[simp] theorem augK_ap {i : Nat} {o : Int → Int → Option Int} {a : Int} : augK i o f sl io (some (.dat (.int a))) = (f sl io).bind (augL i o a sl) := rfl
@[simp] theorem dAugI_ap {i : Nat} {o : Int → Int → Option Int} : dAugI i o f sl io = augK i o f sl io sl[i]? := rfl
def forK (tg : Tg) (p : DS) (sl : List S) : (List D × Chk) × IO → Option R := fun x => forGo x.1.2 tg p x.1.1 sl x.2
@[simp] theorem forK_ap {tg : Tg} {items : List D} {c : Chk} : forK tg p sl ((items, c), io) = forGo c tg p items sl io := rfl
@[simp] theorem dFor_ap {it : DI} {tg : Tg} : dFor it tg p sl io = (it sl io).bind (forK tg p sl) := rfl
end
theorem fitB_cast {n : Nat} (h : n ≤ 1000000) : fitB (n : Int) = true := fitB_nat h
/-! operators at known kinds -/
section
variable {i j : Int} {ds es : List D} {x y : Str} {c : Bool}
@[simp] theorem vw_dat {d : D} : vw io (.dat d) = some d := rfl
@[simp] theorem vw_tmp : vw io (.tmp ds) = some (.list ds) := rfl
@[simp] theorem vw_ref {k : Nat} : vw io (.ref k) = io[k]?.map .list := rfl
@[simp] theorem vws_nil : vws io [] = some [] := rfl
@[simp] theorem vws_cons {q : A} {as : List A} : vws io (q :: as) = (vw io q).bind fun d => (vws io as).map fun ds => d :: ds := rfl
@[simp] theorem vwI_dat {d : D} : vwI (.dat d) = some d := rfl
@[simp] theorem vwI_tmp : vwI (.tmp ds) = some (.list ds) := rfl
@[simp] theorem vwIs_nil : vwIs [] = some [] := rfl
@[simp] theorem vwIs_cons {q : A} {as : List A} : vwIs (q :: as) = (vwI q).bind fun d => (vwIs as).map fun ds => d :: ds := rfl
@[simp] theorem vwN_dat {k : Nat} {d : D} : vwN io k (.dat d) = some d := rfl
@[simp] theorem vwN_tmp {k : Nat} : vwN io k (.tmp ds) = some (.list ds) := rfl
@[simp] theorem vwN_ref {k j : Nat} : vwN io k (.ref j) = if j = k then none else io[j]?.map .list := rfl
@[simp] theorem vwNs_nil {k : Nat} : vwNs io k [] = some [] := rfl
@[simp] theorem vwNs_cons {k : Nat} {q : A} {as : List A} : vwNs io k (q :: as) = (vwN io k q).bind fun d => (vwNs io k as).map fun ds => d :: ds := rfl
@[simp] theorem slotOf_dat {d : D} : slotOf (.dat d) = .dat d := rfl
@[simp] theorem slotOf_tmp : slotOf (.tmp ds) = .dat (.list ds) := rfl
@[simp] theorem slotOf_ref {k : Nat} : slotOf (.ref k) = .ref k := rfl
@[simp] theorem addD_int : addD (.int i) (.int j) = some (.dat (.int (i + j))) := rfl
@[simp] theorem addD_str : addD (.str x) (.str y) = if x.length + y.length ≤ LIM then some (.dat (.str (x ++ y))) else none := rfl
@[simp] theorem addD_tup : addD (.tuple ds) (.tuple es) = if ds.length + es.length ≤ LIM then some (.dat (.tuple (ds ++ es))) else none := rfl
@[simp] theorem addD_lst : addD (.list ds) (.list es) = if ds.length + es.length ≤ LIM then some (.tmp (ds ++ es)) else none := rfl
@[simp] theorem subD_int : subD (.int i) (.int j) = some (.dat (.int (i - j))) := rfl
@[simp] theorem mulD_int : mulD (.int i) (.int j) = if mulOk i j = true then some (.dat (.int (i * j))) else none := rfl
@[simp] theorem fdivD_int : fdivD (.int i) (.int j) = if 0 < j ∧ j < 1073741824 then some (.dat (.int (i / j))) else none := rfl
@[simp] theorem modD_int : modD (.int i) (.int j) = if 0 < j then some (.dat (.int (i % j))) else none := rfl
@[simp] theorem powD_int : powD (.int i) (.int j) = if 0 ≤ j ∧ j ≤ 1000000 ∧ i.natAbs < 2 ^ 64 then some (.dat (.int (i ^ j.toNat))) else none := rfl
@[simp] theorem ltD_int : ltD (.int i) (.int j) = some (.dat (.bool (decide (i < j)))) := rfl
@[simp] theorem leD_int : leD (.int i) (.int j) = some (.dat (.bool (decide (i ≤ j)))) := rfl
@[simp] theorem gtD_int : gtD (.int i) (.int j) = some (.dat (.bool (decide (j < i)))) := rfl
@[simp] theorem geD_int : geD (.int i) (.int j) = some (.dat (.bool (decide (j ≤ i)))) := rfl
@[simp] theorem eqO_ap {d e : D} : eqO d e = (eqD d e).map fun b => .dat (.bool b) := rfl
@[simp] theorem neO_ap {d e : D} : neO d e = (eqD d e).map fun b => .dat (.bool (!b)) := rfl
@[simp] theorem inO_ap {d e : D} : inO d e = (inD d e).map fun b => .dat (.bool b) := rfl
@[simp] theorem ninO_ap {d e : D} : ninO d e = (inD d e).map fun b => .dat (.bool (!b)) := rfl
@[simp] theorem eqD_int : eqD (.int i) (.int j) = some (decide (i = j)) := rfl
@[simp] theorem eqD_str : eqD (.str x) (.str y) = some (decide (x = y)) := rfl
@[simp] theorem isD_none {d : D} : isD d .none = some (.dat (.bool (isNonD d))) := by cases d <;> rfl
@[simp] theorem isntD_none {d : D} : isntD d .none = some (.dat (.bool (!isNonD d))) := by cases d <;> rfl
@[simp] theorem isNonD_none : isNonD .none = true := rfl
@[simp] theorem isNonD_int : isNonD (.int i) = false := rfl
@[simp] theorem isNonD_bool : isNonD (.bool c) = false := rfl
@[simp] theorem isNonD_tup : isNonD (.tuple ds) = false := rfl
@[simp] theorem isNonD_str : isNonD (.str x) = false := rfl
@[simp] theorem isNonD_lst : isNonD (.list ds) = false := rfl
@[simp] theorem truD_bool : truD (.bool c) = some c := rfl
@[simp] theorem idxD_tup : idxD (.tuple ds) (.int i) = (atI ds i).map .dat := rfl
@[simp] theorem idxD_lst : idxD (.list ds) (.int i) = (atI ds i).map .dat := rfl
@[simp] theorem idxD_str : idxD (.str x) (.int i) = if x.length ≤ LIM then (atI x.cps.toList i).map fun c => .dat (.str ⟨#[c]⟩) else none := rfl
@[simp] theorem sliceD_tup {lo hi : Option Int} : sliceD (.tuple ds) lo hi = some (.dat (.tuple (cutD ds lo hi))) := rfl
@[simp] theorem sliceD_lst {lo hi : Option Int} : sliceD (.list ds) lo hi = some (.tmp (cutD ds lo hi)) := rfl
@[simp] theorem sliceD_str {lo hi : Option Int} : sliceD (.str x) lo hi = if x.length ≤ LIM then some (.dat (.str (cutS x lo hi))) else none := rfl
@[simp] theorem lenD_tup : lenD [.tuple ds] = some (.dat (.int ds.length)) := rfl
@[simp] theorem lenD_lst : lenD [.list ds] = some (.dat (.int ds.length)) := rfl
@[simp] theorem lenD_str : lenD [.str x] = if x.length ≤ LIM then some (.dat (.int x.length)) else none := rfl
@[simp] theorem intD_int : intD [.int i] = some (.dat (.int i)) := rfl
@[simp] theorem intD_bool : intD [.bool c] = some (.dat (.int (if c then 1 else 0))) := rfl
@[simp] theorem maxD_int : maxD [.int i, .int j] = some (.dat (.int (if j > i then j else i))) := rfl
@[simp] theorem minD_int : minD [.int i, .int j] = some (.dat (.int (if j < i then j else i))) := rfl
@[simp] theorem tupleD_lst : tupleD [.list ds] = some (.dat (.tuple ds)) := rfl
@[simp] theorem tupleD_tup : tupleD [.tuple ds] = some (.dat (.tuple ds)) := rfl
@[simp] theorem listD_lst : listD [.list ds] = some (.tmp ds) := rfl
@[simp] theorem listD_tup : listD [.tuple ds] = some (.tmp ds) := rfl
@[simp] theorem splitD_str : splitD x [.str y] = if (y.length == 0) = false ∧ x.length ≤ LIM then some (.tmp ((Txt.split x y).map .str)) else none := rfl
@[simp] theorem joinD_lst : joinD x [.list ds] = (strsOf ds).bind fun ss => if joinLen x ss ≤ LIM then some (.dat (.str (Txt.join x ss))) else none := rfl
@[simp] theorem itemsOf_tup : itemsOf io (.dat (.tuple ds)) = some (ds, none) := rfl
@[simp] theorem itemsOf_lst : itemsOf io (.dat (.list ds)) = some (ds, none) := rfl
@[simp] theorem itemsOf_str : itemsOf io (.dat (.str x)) = some (strItems x, none) := rfl
@[simp] theorem itemsOf_tmp : itemsOf io (.tmp ds) = some (ds, none) := rfl
@[simp] theorem itemsOf_ref {k : Nat} : itemsOf io (.ref k) = io[k]?.map fun ds => (ds, some (k, ds)) := rfl
@[simp] theorem chk_none : chk none io = true := rfl
@[simp] theorem tgGo_one {d : D} {k : Nat} : tgGo (.one k) d sl = some (sl.set k (.dat d)) := rfl
@[simp] theorem im_int : im (.int i) = true := rfl
@[simp] theorem im_none : im .none = true := rfl
@[simp] theorem im_bool : im (.bool c) = true := rfl
@[simp] theorem im_str : im (.str x) = true := rfl
@[simp] theorem im_tup : im (.tuple ds) = imAll ds := rfl
@[simp] theorem imAll_nil : imAll [] = true := rfl
@[simp] theorem imAll_cons {d : D} : imAll (d :: ds) = (im d && imAll ds) := rfl
@[simp] theorem imAll_app : imAll (ds ++ es) = (imAll ds && imAll es) := imAll_append
theorem imAll_map {α : Type} {k : α → D} (hk : ∀ a, im (k a) = true) : ∀ l : List α, imAll (l.map k) = true
  | [] => rfl
  | a :: l => by rw [List.map_cons, imAll, hk a, imAll_map hk l]; rfl
@[simp] theorem imAll_ints {l : List Int} : imAll (l.map PyData.int) = true := imAll_map (fun _ => rfl) l
@[simp] theorem imAll_strs {l : List Str} : imAll (l.map PyData.str) = true := imAll_map (fun _ => rfl) l
@[simp] theorem strsOf_strs {l : List Str} : strsOf (l.map PyData.str) = some l := strsOf_map l
@[simp] theorem wipeS_nil : wipeS sl [] = sl := rfl
@[simp] theorem wipeS_cons {v : Nat} {vs : List Nat} : wipeS sl (v :: vs) = (wipeS sl vs).set v .un := rfl
@[simp] theorem lcItem_dat {d : D} : lcItem (.dat d) = if im d = true then some d else none := rfl
@[simp] theorem lcItem_tmp : lcItem (.tmp ds) = if imAll ds = true then some (.list ds) else none := rfl
@[simp] theorem finish_nx {n : Nat} : finish n (.nx sl io) = some (.dat .none, io.take n) := rfl
@[simp] theorem finish_dat {n : Nat} {d : D} : finish n (.rt (.dat d) io) = if im d = true then some (.dat d, io.take n) else none := rfl
@[simp] theorem finish_tmp {n : Nat} : finish n (.rt (.tmp ds) io) = if imAll ds = true then some (.tmp ds, io.take n) else none := rfl
@[simp] theorem finish_ref {n k : Nat} : finish n (.rt (.ref k) io) = if n ≤ k then io[k]?.map fun ds => (.tmp ds, io.take n) else none := rfl
end
@[simp] theorem isi_int_int {i : Int} : isiD "int" (.int i) = some (.dat (.bool true)) := by show (kitB "int" "int").map blA = _; rw [show kitB "int" "int" = some true by decide +kernel]; rfl
@[simp] theorem isi_int_bool {i : Bool} : isiD "int" (.bool i) = some (.dat (.bool true)) := by show (kitB "bool" "int").map blA = _; rw [show kitB "bool" "int" = some true by decide +kernel]; rfl
@[simp] theorem isi_int_none : isiD "int" .none = some (.dat (.bool false)) := by show (kitB "NoneType" "int").map blA = _; rw [show kitB "NoneType" "int" = some false by decide +kernel]; rfl
@[simp] theorem isi_int_str {x : Str} : isiD "int" (.str x) = some (.dat (.bool false)) := by show (kitB "str" "int").map blA = _; rw [show kitB "str" "int" = some false by decide +kernel]; rfl
@[simp] theorem isi_int_tup {x : List D} : isiD "int" (.tuple x) = some (.dat (.bool false)) := by show (kitB "tuple" "int").map blA = _; rw [show kitB "tuple" "int" = some false by decide +kernel]; rfl
@[simp] theorem isi_int_lst {x : List D} : isiD "int" (.list x) = some (.dat (.bool false)) := by show (kitB "list" "int").map blA = _; rw [show kitB "list" "int" = some false by decide +kernel]; rfl
@[simp] theorem isi_bool_int {i : Int} : isiD "bool" (.int i) = some (.dat (.bool false)) := by show (kitB "int" "bool").map blA = _; rw [show kitB "int" "bool" = some false by decide +kernel]; rfl
@[simp] theorem isi_bool_bool {i : Bool} : isiD "bool" (.bool i) = some (.dat (.bool true)) := by show (kitB "bool" "bool").map blA = _; rw [show kitB "bool" "bool" = some true by decide +kernel]; rfl
@[simp] theorem isi_bool_none : isiD "bool" .none = some (.dat (.bool false)) := by show (kitB "NoneType" "bool").map blA = _; rw [show kitB "NoneType" "bool" = some false by decide +kernel]; rfl
@[simp] theorem isi_bool_str {x : Str} : isiD "bool" (.str x) = some (.dat (.bool false)) := by show (kitB "str" "bool").map blA = _; rw [show kitB "str" "bool" = some false by decide +kernel]; rfl
@[simp] theorem isi_bool_tup {x : List D} : isiD "bool" (.tuple x) = some (.dat (.bool false)) := by show (kitB "tuple" "bool").map blA = _; rw [show kitB "tuple" "bool" = some false by decide +kernel]; rfl
@[simp] theorem isi_bool_lst {x : List D} : isiD "bool" (.list x) = some (.dat (.bool false)) := by show (kitB "list" "bool").map blA = _; rw [show kitB "list" "bool" = some false by decide +kernel]; rfl
@[simp] theorem isi_tup_int {i : Int} : isiD "tuple" (.int i) = some (.dat (.bool false)) := by show (kitB "int" "tuple").map blA = _; rw [show kitB "int" "tuple" = some false by decide +kernel]; rfl
@[simp] theorem isi_tup_bool {i : Bool} : isiD "tuple" (.bool i) = some (.dat (.bool false)) := by show (kitB "bool" "tuple").map blA = _; rw [show kitB "bool" "tuple" = some false by decide +kernel]; rfl
@[simp] theorem isi_tup_none : isiD "tuple" .none = some (.dat (.bool false)) := by show (kitB "NoneType" "tuple").map blA = _; rw [show kitB "NoneType" "tuple" = some false by decide +kernel]; rfl
@[simp] theorem isi_tup_str {x : Str} : isiD "tuple" (.str x) = some (.dat (.bool false)) := by show (kitB "str" "tuple").map blA = _; rw [show kitB "str" "tuple" = some false by decide +kernel]; rfl
@[simp] theorem isi_tup_tup {x : List D} : isiD "tuple" (.tuple x) = some (.dat (.bool true)) := by show (kitB "tuple" "tuple").map blA = _; rw [show kitB "tuple" "tuple" = some true by decide +kernel]; rfl
@[simp] theorem isi_tup_lst {x : List D} : isiD "tuple" (.list x) = some (.dat (.bool false)) := by show (kitB "list" "tuple").map blA = _; rw [show kitB "list" "tuple" = some false by decide +kernel]; rfl
@[simp] theorem isi_str_int {i : Int} : isiD "str" (.int i) = some (.dat (.bool false)) := by show (kitB "int" "str").map blA = _; rw [show kitB "int" "str" = some false by decide +kernel]; rfl
@[simp] theorem isi_str_bool {i : Bool} : isiD "str" (.bool i) = some (.dat (.bool false)) := by show (kitB "bool" "str").map blA = _; rw [show kitB "bool" "str" = some false by decide +kernel]; rfl
@[simp] theorem isi_str_none : isiD "str" .none = some (.dat (.bool false)) := by show (kitB "NoneType" "str").map blA = _; rw [show kitB "NoneType" "str" = some false by decide +kernel]; rfl
@[simp] theorem isi_str_str {x : Str} : isiD "str" (.str x) = some (.dat (.bool true)) := by show (kitB "str" "str").map blA = _; rw [show kitB "str" "str" = some true by decide +kernel]; rfl
@[simp] theorem isi_str_tup {x : List D} : isiD "str" (.tuple x) = some (.dat (.bool false)) := by show (kitB "tuple" "str").map blA = _; rw [show kitB "tuple" "str" = some false by decide +kernel]; rfl
@[simp] theorem isi_str_lst {x : List D} : isiD "str" (.list x) = some (.dat (.bool false)) := by show (kitB "list" "str").map blA = _; rw [show kitB "list" "str" = some false by decide +kernel]; rfl
@[simp] theorem bind_some' {α β : Type} {a : α} {k : α → Option β} : (some a).bind k = k a := rfl

/-! ### loops -/
/-- the statement goes on, in a state of which P holds -/
def Nx (r : Option R) (P : List S → IO → Prop) : Prop := ∃ sl io, r = some (.nx sl io) ∧ P sl io
@[simp] theorem Nx_nx {P : List S → IO → Prop} : Nx (some (.nx sl io)) P ↔ P sl io :=
  ⟨fun ⟨_, _, e, h⟩ => by cases e; exact h, fun h => ⟨_, _, rfl, h⟩⟩
theorem Nx.of {P : List S → IO → Prop} {r : Option R} (e : r = some (.nx sl io)) (h : P sl io) : Nx r P := ⟨_, _, e, h⟩
theorem Nx.imp {P Q : List S → IO → Prop} {r : Option R} (h : Nx r P) (k : ∀ sl io, P sl io → Q sl io) : Nx r Q := let ⟨sl, io, e, p⟩ := h; ⟨sl, io, e, k sl io p⟩
theorem forGo_rel {c : Chk} {tg : Tg} {body : DS} (P : Nat → List S → IO → Prop) : ∀ (items : List D) (k : Nat) (sl : List S) (io : IO), P k sl io →
    (∀ i d sl io, items[i]? = some d → P (k + i) sl io → chk c io = true ∧ Nx ((tgGo tg d sl).bind fun sl1 => body sl1 io) (P (k + i + 1))) →
    (∀ sl io, P (k + items.length) sl io → chk c io = true) → Nx (forGo c tg body items sl io) (P (k + items.length))
  | [], k, sl, io, h, _, he => ⟨sl, io, by unfold forGo; rw [he sl io h]; rfl, h⟩
  | d :: r, k, sl, io, h, hs, he => by
    obtain ⟨hc, sl2, io2, e2, h2⟩ := hs 0 d sl io rfl h
    obtain ⟨sl', io', e3, h3⟩ := forGo_rel P r (k + 1) sl2 io2 h2 (fun i d' sl io hi hp => by
      have h1 : k + (i + 1) = k + 1 + i := by omega
      have := hs (i + 1) d' sl io (by simpa using hi) (by rw [h1]; exact hp)
      rw [h1] at this
      exact this) (fun sl io hp => he sl io (by rw [List.length_cons, show k + (r.length + 1) = k + 1 + r.length by omega]; exact hp))
    refine ⟨sl', io', ?_, by rw [List.length_cons, show k + (r.length + 1) = k + 1 + r.length by omega]; exact h3⟩
    unfold forGo
    rw [if_pos hc]
    rw [Option.bind_eq_some_iff] at e2
    obtain ⟨sl1, e1, e2⟩ := e2
    rw [e1]
    simp only [bind_some', e2]
    exact e3
/-- a loop, by a word of the turn -/
theorem for_rel {c : Chk} {tg : Tg} {body : DS} {items : List D} {sl : List S} {io : IO} (P : Nat → List S → IO → Prop) (h0 : P 0 sl io)
    (hs : ∀ i d sl io, items[i]? = some d → P i sl io → chk c io = true ∧ Nx ((tgGo tg d sl).bind fun sl1 => body sl1 io) (P (i + 1)))
    (he : ∀ sl io, P items.length sl io → chk c io = true) : Nx (forGo c tg body items sl io) (P items.length) := by
  have := forGo_rel (c := c) (tg := tg) (body := body) P items 0 sl io h0 (fun i d sl io hi hp => by
    rw [Nat.zero_add] at hp ⊢
    exact hs i d sl io hi hp) (fun sl io hp => he sl io (by rw [Nat.zero_add] at hp; exact hp))
  rw [Nat.zero_add] at this
  exact this
theorem Nx_for {it : DI} {c : Chk} {tg : Tg} {body : DS} {items : List D} {sl : List S} {io io1 : IO} (P : Nat → List S → IO → Prop) (hi : it sl io = some ((items, c), io1)) (h0 : P 0 sl io1)
    (hs : ∀ i d sl io, items[i]? = some d → P i sl io → chk c io = true ∧ Nx ((tgGo tg d sl).bind fun sl1 => body sl1 io) (P (i + 1)))
    (he : ∀ sl io, P items.length sl io → chk c io = true) : Nx (dFor it tg body sl io) (P items.length) := by
  rw [dFor_ap, hi]
  exact for_rel P h0 hs he
/-- the statement gives a -/
def Rt (o : Option R) (a : A) (P : IO → Prop) : Prop := ∃ io, o = some (.rt a io) ∧ P io
@[simp] theorem Rt_rt {a : A} {P : IO → Prop} : Rt (some (.rt a io)) a P ↔ P io :=
  ⟨fun ⟨_, e, h⟩ => by cases e; exact h, fun h => ⟨_, rfl, h⟩⟩
section
variable {p q : DS} {sl' : List S} {io' : IO} {a : A} {P0 P1 : List S → IO → Prop} {P : IO → Prop}
theorem seq_nx (h : p sl io = some (.nx sl' io')) : dSeq p q sl io = q sl' io' := by rw [dSeq_ap, h]; rfl
theorem seq_rt (h : p sl io = some (.rt a io')) : dSeq p q sl io = some (.rt a io') := by rw [dSeq_ap, h]; rfl
theorem Rt_seq (h : Nx (p sl io) P0) (k : ∀ sl io, P0 sl io → Rt (q sl io) a P) : Rt (dSeq p q sl io) a P := by
  obtain ⟨sl', io', e, h⟩ := h
  rw [seq_nx e]
  exact k _ _ h
theorem Rt_seq1 (h : Rt (p sl io) a P) : Rt (dSeq p q sl io) a P := by
  obtain ⟨io', e, h⟩ := h
  rw [seq_rt e]
  exact ⟨_, rfl, h⟩
theorem Nx_seq (h : Nx (p sl io) P0) (k : ∀ sl io, P0 sl io → Nx (q sl io) P1) : Nx (dSeq p q sl io) P1 := by
  obtain ⟨sl', io', e, h⟩ := h
  rw [seq_nx e]
  exact k _ _ h
theorem runD_rt {np ns : Nat} {body : DS} {ds : List D} {d : D} (hl : ds.length = np) (h : Rt (body (slots ns (ds.map .dat)) []) (.dat d) fun _ => True) (hi : im d = true) : runD np ns body ds = some (.dat d) := by
  obtain ⟨io, e, _⟩ := h
  unfold runD
  rw [if_pos hl, e]
  simp [hi]
theorem runD_tm {np ns : Nat} {body : DS} {ds es : List D} (hl : ds.length = np) (h : Rt (body (slots ns (ds.map .dat)) []) (.tmp es) fun _ => True) (hi : imAll es = true) : runD np ns body ds = some (.tmp es) := by
  obtain ⟨io, e, _⟩ := h
  unfold runD
  rw [if_pos hl, e]
  simp [hi]
theorem runD_rf {np ns k : Nat} {body : DS} {ds es : List D} (hl : ds.length = np) (h : Rt (body (slots ns (ds.map .dat)) []) (.ref k) fun io => io[k]? = some es) : runD np ns body ds = some (.tmp es) := by
  obtain ⟨io, e, h⟩ := h
  unfold runD
  rw [if_pos hl, e]
  simp [h]
theorem runD_nx {np ns : Nat} {body : DS} {ds : List D} (hl : ds.length = np) (h : Nx (body (slots ns (ds.map .dat)) []) fun _ _ => True) : runD np ns body ds = some (.dat .none) := by
  obtain ⟨sl, io, e, _⟩ := h
  unfold runD
  rw [if_pos hl, e]
  rfl
theorem runJ_rt {np ns : Nat} {body : DS} {ds js js' : List D} {d : D} (hl : ds.length + 1 = np) (h : Rt (body (slots ns (.ref 0 :: ds.map .dat)) [js]) (.dat d) fun io => io[0]? = some js') (hi : im d = true) : runJ np ns body js ds = some (.dat d, js') := by
  obtain ⟨io, e, h⟩ := h
  unfold runJ
  rw [if_pos hl, e]
  cases io with
  | nil => cases h
  | cons x r =>
    cases h
    simp [hi]
theorem runLaw_rt {ns : Nat} {body : DS} {xs : List Int} {b : Bool} (h : Rt (body (slots ns [.scr xs]) []) (.dat (.bool b)) fun _ => True) : runLaw ns body xs = some b := by
  obtain ⟨io, e, _⟩ := h
  unfold runLaw
  rw [e]
  rfl
end
/-- a comprehension without a test whose element changes nothing -/
theorem lcGo_map {c : Chk} {tg : Tg} {f : DE} {sl : List S} {io : IO} (hc : chk c io = true) (v : D → D) : ∀ (items : List D) (n : Nat), n + items.length ≤ LIM →
    (∀ d ∈ items, ∃ sl1 a, tgGo tg d sl = some sl1 ∧ f sl1 io = some (a, io) ∧ lcItem a = some (v d)) → lcGo c tg dYes f sl items n io = some (items.map v, io)
  | [], n, _, _ => by unfold lcGo; rw [if_pos hc]; rfl
  | d :: r, n, hn, h => by
    obtain ⟨sl1, a, e1, e2, e3⟩ := h d List.mem_cons_self
    rw [List.length_cons] at hn
    unfold lcGo
    rw [if_pos ⟨hc, by omega⟩, e1]
    simp only [bind_some', dYes_ap, if_true, e2, e3]
    rw [lcGo_map hc v r (n + 1) (by omega) fun d' hd => h d' (List.mem_cons_of_mem _ hd)]
    rfl
theorem lcGo_mapL {α : Type} {c : Chk} {tg : Tg} {f : DE} {sl : List S} {io : IO} (hc : chk c io = true) (k v : α → D) : ∀ (l : List α) (n : Nat), n + l.length ≤ LIM →
    (∀ a ∈ l, ∃ sl1 r, tgGo tg (k a) sl = some sl1 ∧ f sl1 io = some (r, io) ∧ lcItem r = some (v a)) → lcGo c tg dYes f sl (l.map k) n io = some (l.map v, io)
  | [], n, _, _ => by unfold lcGo; rw [List.map_nil]; simp only []; rw [if_pos hc]; rfl
  | d :: r, n, hn, h => by
    obtain ⟨sl1, a, e1, e2, e3⟩ := h d List.mem_cons_self
    rw [List.length_cons] at hn
    rw [List.map_cons]
    unfold lcGo
    rw [if_pos ⟨hc, by omega⟩, e1]
    simp only [bind_some', dYes_ap, if_true, e2, e3]
    rw [lcGo_mapL hc k v r (n + 1) (by omega) fun d' hd => h d' (List.mem_cons_of_mem _ hd)]
    rfl
theorem rng_mem {lo : Int} {n : Nat} {d : D} (h : d ∈ rngItems lo n) : ∃ i, i < n ∧ d = .int (lo + (i : Nat)) := by
  unfold rngItems at h
  rw [List.mem_map] at h
  obtain ⟨i, h1, h2⟩ := h
  exact ⟨i, List.mem_range.mp h1, h2.symm⟩
end
end DD
set_option Elab.async false
set_option linter.all false
set_option maxRecDepth 100000
/-! DD: data that are alike to themselves. -/
namespace DD
open PySem L2
mutual
def leaf : D → Bool
  | .none | .bool _ => true
  | .int i => decide (i.natAbs < 10 ^ 6)
  | .str x => x.cps.all (· < 0x110000)
  | .list xs | .tuple xs => leafs xs
  | .dict _ => false
def leafs : List D → Bool
  | [] => true
  | x :: xs => leaf x && leafs xs
end
theorem int_short {i : Int} (h : i.natAbs < 10 ^ 6) : (PyData.shown (.int i)).length ≤ 8 := by
  rw [PyData.shown_int]
  have := int_text_length_le10 (k := 6) (by omega) h
  have e : ((toString i : String) : Str).length = (toString i).length := ofString_length _
  omega
theorem log6 {i : Int} (h : i.natAbs < 10 ^ 6) : i.natAbs.log2 < 20 ∨ i.natAbs = 0 := by
  by_cases z : i.natAbs = 0
  · exact .inr z
  · exact .inl ((Nat.log2_lt z (k := 20)).mpr (Nat.lt_of_lt_of_le h (by decide)))
mutual
theorem leaf_lay : ∀ {d : D}, leaf d = true → PyData.canLay0 d = true ∧ PyData.showable d = true ∧ PyData.leavesShort 8 d = true
  | .none, _ => ⟨rfl, by simp only [PyData.showable], by simp only [PyData.leavesShort]⟩
  | .bool _, _ => ⟨rfl, by simp only [PyData.showable], by simp only [PyData.leavesShort]⟩
  | .int i, h => by
    have h' : i.natAbs < 10 ^ 6 := by simpa only [leaf, decide_eq_true_eq] using h
    refine ⟨rfl, ?_, ?_⟩
    · simp only [PyData.showable, decide_eq_true_eq]
      rcases log6 h' with z | z
      · omega
      · rw [z]; decide
    · simp only [PyData.leavesShort, decide_eq_true_eq]
      exact int_short h'
  | .str x, h => by
    have h' : x.cps.all (· < 0x110000) = true := by simpa only [leaf] using h
    refine ⟨by simpa only [PyData.canLay0, PyData.strOk] using h', by simp only [PyData.showable], ?_⟩
    simp only [PyData.leavesShort, List.all_eq_true, decide_eq_true_eq]
    intro c hc
    rw [← Array.all_toList, List.all_eq_true] at h'
    have := of_decide_eq_true (h' c hc)
    omega
  | .list xs, h => by
    obtain ⟨a, b, c⟩ := leafs_lay (xs := xs) (by simpa only [leaf] using h)
    exact ⟨by simpa only [PyData.canLay0] using a, by simpa only [PyData.showable] using b, by simpa only [PyData.leavesShort] using c⟩
  | .tuple xs, h => by
    obtain ⟨a, b, c⟩ := leafs_lay (xs := xs) (by simpa only [leaf] using h)
    exact ⟨by simpa only [PyData.canLay0] using a, by simpa only [PyData.showable] using b, by simpa only [PyData.leavesShort] using c⟩
  | .dict _, h => by simp only [leaf] at h; cases h
theorem leafs_lay : ∀ {xs : List D}, leafs xs = true → PyData.canLayAll0 xs = true ∧ PyData.showableAll xs = true ∧ PyData.leavesShortAll 8 xs = true
  | [], _ => ⟨rfl, by simp only [PyData.showableAll], by simp only [PyData.leavesShortAll]⟩
  | x :: xs, h => by
    have h' : leaf x = true ∧ leafs xs = true := by simpa only [leafs, Bool.and_eq_true] using h
    obtain ⟨a, b, c⟩ := leaf_lay h'.1
    obtain ⟨a', b', c'⟩ := leafs_lay h'.2
    exact ⟨by simp only [PyData.canLayAll0, a, a', Bool.and_self], by simp only [PyData.showableAll, b, b', Bool.and_self], by simp only [PyData.leavesShortAll, c, c', Bool.and_self]⟩
end
/-- small enough to be shown -/
structure Small (d : D) : Prop where
  lf : leaf d = true
  dp : PyData.depth d ≤ 64
  wt : PyData.weight d ≤ 9000
theorem Small.len {d : D} (h : Small d) : (PyData.shown d).length ≤ LIM := by
  have := PyData.shown_le 8 (by omega) d (leaf_lay h.lf).2.2
  have := h.wt
  unfold LIM
  omega
theorem Small.eq {d : D} (h : Small d) : eqD d d = some true := by
  unfold eqD
  split
  · rename_i b hb
    unfold eqS at hb
    split at hb <;> simp_all
  · have h1 := (leaf_lay h.lf).1
    have hs : SeqAt.shaped d = true := by
      unfold SeqAt.shaped
      rw [h1, decide_eq_true h.dp]; rfl
    rw [hs, SeqAt.eqv_refl d h1]; rfl
theorem Small.repr {d : D} (h : Small d) : reprD [d] = some (.dat (.str (PyData.shown d))) := by
  have h1 := leaf_lay h.lf
  have h2 := h.len
  have h3 := h.dp
  have h4 := PyData.hasDict_of_canLay d h1.1
  cases d with
  | none => rfl
  | bool b => rfl
  | int i =>
    have : i.natAbs < 1000000 := by have := h.lf; simpa only [leaf, decide_eq_true_eq] using this
    unfold reprD
    simp only []
    rw [if_pos this]
  | str s => unfold reprD; simp only []; rw [if_pos h2]
  | tuple ds =>
    unfold reprD; simp only []
    rw [if_pos]
    rw [h1.2.1, h4, decide_eq_true h2, decide_eq_true h3]; rfl
  | list ds =>
    unfold reprD; simp only []
    rw [if_pos]
    rw [h1.2.1, h4, decide_eq_true h2, decide_eq_true h3]; rfl
  | dict kvs => have := h.lf; simp only [leaf] at this; cases this
theorem int_wt {i : Int} (h : i.natAbs < 10 ^ 6) (n : Nat) (hn : 21 ≤ n) : PyData.weight (.int i) ≤ n := by
  simp only [PyData.weight]
  split
  · omega
  · rcases log6 h with z | z
    · omega
    · rw [z, show Nat.log2 0 = 0 by decide]; omega
theorem Small.int {i : Int} (h : i.natAbs < 1000000) : Small (.int i) := ⟨by simpa only [leaf, decide_eq_true_eq] using h, by simp only [PyData.depth]; omega, int_wt h 9000 (by omega)⟩
theorem Small.none : Small .none := ⟨rfl, by simp only [PyData.depth]; omega, by simp only [PyData.weight]; omega⟩
theorem Small.bool {b : Bool} : Small (.bool b) := ⟨rfl, by simp only [PyData.depth]; omega, by simp only [PyData.weight]; omega⟩
theorem Small.str {x : Str} (h : x.cps.all (· < 0x110000) = true) (h2 : x.length ≤ 9000) : Small (.str x) := ⟨by simpa only [leaf] using h, by simp only [PyData.depth]; omega, by simp only [PyData.weight]; exact h2⟩
/-- each of them of depth n and weight w -/
def Each (n w : Nat) (ds : List D) : Prop := ∀ d ∈ ds, leaf d = true ∧ PyData.depth d ≤ n ∧ PyData.weight d ≤ w
theorem Each.all {n w : Nat} : ∀ {ds : List D}, Each n w ds → leafs ds = true ∧ PyData.depthAll ds ≤ n ∧ PyData.weightAll ds ≤ ds.length * (w + 1)
  | [], _ => ⟨rfl, by simp only [PyData.depthAll]; omega, by simp only [PyData.weightAll]; omega⟩
  | d :: ds, h => by
    obtain ⟨a, b, c⟩ := h d List.mem_cons_self
    obtain ⟨a', b', c'⟩ := Each.all fun x hx => h x (List.mem_cons_of_mem _ hx)
    refine ⟨by simp only [leafs, a, a', Bool.and_self], by simp only [PyData.depthAll]; omega, ?_⟩
    simp only [PyData.weightAll, List.length_cons, Nat.add_mul]
    omega
theorem Small.tuple {n w : Nat} {ds : List D} (h : Each n w ds) (hn : n ≤ 63) (hw : ds.length * (w + 1) ≤ 9000) : Small (.tuple ds) := by
  obtain ⟨a, b, c⟩ := h.all
  exact ⟨by simpa only [leaf] using a, by simp only [PyData.depth]; omega, by simp only [PyData.weight]; omega⟩
end DD
set_option Elab.async false
set_option linter.all false
set_option maxRecDepth 100000
/-! DD: arithmetic without sides. -/
namespace DD
open PySem L2
theorem mul_r {i j : Int} (h0 : 0 ≤ j) (h1 : j < 4294967296) : mulD (.int i) (.int j) = some (.dat (.int (i * j))) := by
  rw [mulD_int, if_pos]
  unfold mulOk
  rw [Bool.or_eq_true, Bool.and_eq_true, Bool.and_eq_true]
  exact .inr ⟨decide_eq_true (by omega), decide_eq_true (by omega)⟩
theorem mul_l {i j : Int} (h0 : 0 ≤ i) (h1 : i < 4294967296) : mulD (.int i) (.int j) = some (.dat (.int (i * j))) := by
  rw [mulD_int, if_pos]
  unfold mulOk
  rw [Bool.or_eq_true, Bool.and_eq_true, Bool.and_eq_true]
  exact .inl ⟨decide_eq_true (by omega), decide_eq_true (by omega)⟩
theorem mod_p {i j : Int} (h0 : 0 < j) : modD (.int i) (.int j) = some (.dat (.int (i % j))) := by rw [modD_int, if_pos h0]
theorem fdiv_p {i j : Int} (h0 : 0 < j) (h1 : j < 1073741824) : fdivD (.int i) (.int j) = some (.dat (.int (i / j))) := by rw [fdivD_int, if_pos ⟨h0, h1⟩]
theorem at3_0 {x y z : D} : atI [x, y, z] 0 = some x := rfl
theorem at3_1 {x y z : D} : atI [x, y, z] 1 = some y := rfl
theorem at3_2 {x y z : D} : atI [x, y, z] 2 = some z := rfl
theorem ix3_0 : ixN 3 0 = some 0 := rfl
theorem ix3_2 : ixN 3 2 = some 2 := rfl
end DD
set_option Elab.async false
set_option linter.all false
set_option maxRecDepth 100000
set_option maxHeartbeats 4000000
/-! DD: text times int, xs[::-1], len of the script. -/
namespace DD
open PySem PySem.Spec PyProof.Rows L2
section
variable {X : Cx} {f g : DE}
theorem rep_size (a : Array Nat) : ∀ (m : Nat) (acc : Array Nat), ((List.replicate m a).foldl (· ++ ·) acc).size = acc.size + m * a.size
  | 0, acc => by simp
  | m + 1, acc => by
    rw [List.replicate_succ, List.foldl_cons, rep_size a m, Array.size_append, Nat.add_mul]
    omega
def mulSD : D → D → Option A
  | .str x, .int n => if 2 ≤ n ∧ n ≤ 5000 ∧ 1 ≤ x.length ∧ x.length ≤ 10 then some (.dat (.str ⟨(List.replicate n.toNat x.cps).foldl (· ++ ·) #[]⟩)) else none
  | _, _ => none
theorem op_mulSD : OpR X (binaryOp .Mult) (rO X.K mulSD) := by
  intro pins s σ H x y v u Q I rx ry ⟨T, d, e, r, hx, hy, ht, ho, q⟩
  unfold mulSD at ho
  split at ho
  · rename_i x0 n
    split at ho
    · rename_i hk
      obtain ⟨k1, k2, k3, k4⟩ := hk
      cases ho; cases hx.str; cases hy.int
      obtain ⟨t, rfl⟩ := rx
      obtain ⟨t2, rfl⟩ := ry
      have b1 : (n == 1 || x0.length == 0) = false := by
        rw [Bool.or_eq_false_iff]
        exact ⟨beq_eq_false_iff_ne.mpr (by omega), beq_eq_false_iff_ne.mpr (by omega)⟩
      have b2 : (x0.length * n.toNat) ≤ 50000 := by
        have a1 : x0.length * n.toNat ≤ 10 * 5000 := Nat.mul_le_mul k4 (by omega)
        omega
      refine PySem.P.mul_str (by rw [decide_eq_false (by omega), decide_eq_false (by omega)]; rfl) (fun _ _ => ?_) (fun _ _ => ?_) ?_
      · have : (5000 : Int) * ((2 ^ 63 - 1) / n) ≥ n * ((2 ^ 63 - 1) / n) := Int.mul_le_mul_of_nonneg_right k2 (Int.ediv_nonneg (by omega) (by omega))
        have h3 : (2 ^ 63 - 1) / n ≥ 10 := by
          refine (Int.le_ediv_iff_mul_le (by omega)).mpr ?_
          omega
        omega
      · unfold Builtin.Str.tooLong
        exact decide_eq_false (by rw [sizeLine_eq]; omega)
      · rw [if_neg (by omega), b1]
        have b3 : (⟨(List.replicate n.toNat x0.cps).foldl (· ++ ·) #[]⟩ : Str).length ≤ sizeLine := by
          show ((List.replicate n.toNat x0.cps).foldl (· ++ ·) #[]).size ≤ _
          rw [rep_size, sizeLine_eq, Nat.mul_comm]
          have : x0.cps.size * n.toNat ≤ 50000 := b2
          simp
          omega
        exact ⟨b3, .str _, H, I.tok _, ⟨_, rfl⟩, q _ H (Ex.refl _) (.str _)⟩
    · cases ho
  · cases ho
def dRev (f : DE) : DE := fun sl io => (f sl io).bind fun p => (vw p.2 p.1).bind fun d => match d with
  | .list ds => some (.tmp ds.reverse, p.2)
  | _ => none
theorem DdAll.rev {K : PySem.W.Frag} {H : Hp} : ∀ {xs : List V} {ds : List D}, DdAll K H xs ds → DdAll K H xs.reverse ds.reverse
  | _, _, .nil => .nil
  | _, _, .cons h t => by rw [List.reverse_cons, List.reverse_cons]; exact t.rev.append (.cons h .nil)
theorem pd_rev {e : Expr} {k : Nat} {p1 p2 p3 pos : Pos} (he : PE X e (tE X.K f)) : PE X (.Subscript e (.Slice none none (some (.UnaryOp .USub (.Constant (.int 1) k p1) p2)) p3) pos) (tE X.K (dRev f)) := PE.imp (pe_revL he) fun σ H Q hh => by
  obtain ⟨T, sl, io, hR, r, io', e, q⟩ := hh
  unfold dRev at e
  simp only [Option.bind_eq_some_iff, Prod.exists] at e
  obtain ⟨a, io1, e1, d, e2, e3⟩ := e
  split at e3
  · cases e3
    refine one hR e1 fun x H1 s1 i1 v1 => ?_
    obtain ⟨p, xs, rfl, hp, hd⟩ := (vw_ok v1 i1 e2).lst
    exact ⟨p, xs, rfl, SqL.of hp, fun z hz => q _ _ (s1.trans (Stp.of_ex (Ex.new hz))) (i1.ex (Ex.new hz)) ((vok_newL hz (i1.fresh hz) hd.rev).back s1)⟩
  · cases e3
theorem pd_scrLen {e : Expr} {i : Nat} {p pos : Pos} (hg : Gl X "len") (hm : X.mg "len" = none) (he : PE X e (tVar i)) (hs : starEach [e] X.env = (false, eval e X.env) :: starEach [] X.env := by rfl) (hpl : (backTo pos (starEach [] X.env)).any (·.1) = false := by rfl) :
    PE X (.Call (.Name "len" p) [e] [] pos) (tE X.K (dScrLen i)) := PE.imp (pe_callB call_len hg hm PySem.boot_len (pa_cons he pa_nil hs) (by decide) (by decide) hs hpl) fun σ H Q hh => by
  obtain ⟨T, sl, io, hR, r, io', e, q⟩ := hh
  unfold dScrLen at e
  split at e
  · rename_i ns hs
    cases e
    obtain ⟨a, ea, hq⟩ := hR.slot i _ hs
    exact ⟨_, ea, .ref a, ns.length, rfl, .inl ⟨ns.map V.int, Evl.ex_l out_ex hq, by rw [List.length_map]⟩, q _ H (Stp.refl _ _) hR.io (.int _)⟩
  · cases e
end
end DD
set_option Elab.async false
set_option linter.all false
set_option maxRecDepth 100000
/-! DD: words for the plain part of what may raise. -/
namespace DD
open PySem L2
section
variable {sl sl' : List S} {io io' : IO} {f g : DE} {t : DT} {a : DA} {p q : DXS} {fx : DXE} {ax : DXA} {tx : DXT}
def xeK : A × IO → FO × IO := fun p => (.ok p.1, p.2)
@[simp] theorem xeK_ap {x : A} : xeK (x, io) = (.ok x, io) := rfl
@[simp] theorem xE_ap : xE f sl io = (f sl io).map xeK := rfl
def xfnK (F : List D → Option FO) : List A × IO → Option (FO × IO) := fun p => (vws p.2 p.1).bind fun ds => (F ds).map fun o => (o, p.2)
@[simp] theorem xfnK_ap {F : List D → Option FO} {as : List A} : xfnK F (as, io) = (vws io as).bind fun ds => (F ds).map fun o => (o, io) := rfl
@[simp] theorem xFn_ap {F : List D → Option FO} : xFn F a sl io = (a sl io).bind (xfnK F) := rfl
@[simp] theorem xNil_ap : xNil sl io = some (.ok [], io) := rfl
def xconsL (x : A) : LO × IO → LO × IO := fun q => (match q.1 with | .ok xs => .ok (x :: xs) | .ex e => .ex e, q.2)
@[simp] theorem xconsL_ok {x : A} {xs : List A} : xconsL x (.ok xs, io) = (.ok (x :: xs), io) := rfl
@[simp] theorem xconsL_ex {x : A} {e : EX} : xconsL x (.ex e, io) = (.ex e, io) := rfl
def xconsK (ax : DXA) (sl : List S) : FO × IO → Option (LO × IO) := fun p => match p.1 with
  | .ok x => (ax sl p.2).map (xconsL x)
  | .ex e => some (.ex e, p.2)
@[simp] theorem xconsK_ok {x : A} : xconsK ax sl (.ok x, io) = (ax sl io).map (xconsL x) := rfl
@[simp] theorem xconsK_ex {e : EX} : xconsK ax sl (.ex e, io) = some (.ex e, io) := rfl
@[simp] theorem xCons_ap : xCons fx ax sl io = (fx sl io).bind (xconsK ax sl) := rfl
def xtupK : LO × IO → Option (FO × IO) := fun p => match p.1 with
  | .ok as => (vwIs as).bind fun ds => if ds.length ≤ LIM then some (.ok (.dat (.tuple ds)), p.2) else none
  | .ex e => some (.ex e, p.2)
@[simp] theorem xtupK_ok {as : List A} : xtupK (.ok as, io) = (vwIs as).bind fun ds => if ds.length ≤ LIM then some (.ok (.dat (.tuple ds)), io) else none := rfl
@[simp] theorem xtupK_ex {e : EX} : xtupK (.ex e, io) = some (.ex e, io) := rfl
@[simp] theorem xTup_ap : xTup ax sl io = (ax sl io).bind xtupK := rfl
def xtruK : FO × IO → Option (BO × IO) := fun p => match p.1 with
  | .ok a => (vw p.2 a).bind fun d => (truD d).map fun b => (.ok b, p.2)
  | .ex e => some (.ex e, p.2)
@[simp] theorem xtruK_ok {x : A} : xtruK (.ok x, io) = (vw io x).bind fun d => (truD d).map fun b => (.ok b, io) := rfl
@[simp] theorem xtruK_ex {e : EX} : xtruK (.ex e, io) = some (.ex e, io) := rfl
@[simp] theorem xTru_ap : xTru fx sl io = (fx sl io).bind xtruK := rfl
@[simp] theorem xS_ap {s : DS} : xS s sl io = (s sl io).map .r := rfl
def xsqK (q : DXS) : XR → Option XR := fun o => match o with
  | .r (.nx sl' io') => q sl' io'
  | o => some o
@[simp] theorem xsqK_nx : xsqK q (.r (.nx sl io)) = q sl io := rfl
@[simp] theorem xsqK_rt {x : A} : xsqK q (.r (.rt x io)) = some (.r (.rt x io)) := rfl
@[simp] theorem xsqK_bk : xsqK q (.r (.bk sl io)) = some (.r (.bk sl io)) := rfl
@[simp] theorem xsqK_ct : xsqK q (.r (.ct sl io)) = some (.r (.ct sl io)) := rfl
@[simp] theorem xsqK_ex {e : EX} : xsqK q (.ex e sl io) = some (.ex e sl io) := rfl
@[simp] theorem xSeq_ap : xSeq p q sl io = (p sl io).bind (xsqK q) := rfl
def xifK (p q : DXS) (sl : List S) : BO × IO → Option XR := fun c => match c.1 with
  | .ok b => if b then p sl c.2 else q sl c.2
  | .ex e => some (.ex e sl c.2)
@[simp] theorem xifK_ok {b : Bool} : xifK p q sl (.ok b, io) = if b then p sl io else q sl io := rfl
@[simp] theorem xifK_ex {e : EX} : xifK p q sl (.ex e, io) = some (.ex e sl io) := rfl
@[simp] theorem xIf_ap : xIf tx p q sl io = (tx sl io).bind (xifK p q sl) := rfl
def xtK : Bool × IO → BO × IO := fun p => (.ok p.1, p.2)
@[simp] theorem xtK_ap {b : Bool} : xtK (b, io) = (.ok b, io) := rfl
@[simp] theorem xT_ap : xT t sl io = (t sl io).map xtK := rfl
def xretK (sl : List S) : FO × IO → XR := fun p => match p.1 with
  | .ok a => .r (.rt a p.2)
  | .ex e => .ex e sl p.2
@[simp] theorem xretK_ok {x : A} : xretK sl (.ok x, io) = .r (.rt x io) := rfl
@[simp] theorem xretK_ex {e : EX} : xretK sl (.ex e, io) = .ex e sl io := rfl
@[simp] theorem xRet_ap : xRet fx sl io = (fx sl io).map (xretK sl) := rfl
def xdropK (sl : List S) : FO × IO → XR := fun p => match p.1 with
  | .ok _ => .r (.nx sl p.2)
  | .ex e => .ex e sl p.2
@[simp] theorem xdropK_ok {x : A} : xdropK sl (.ok x, io) = .r (.nx sl io) := rfl
@[simp] theorem xdropK_ex {e : EX} : xdropK sl (.ex e, io) = .ex e sl io := rfl
@[simp] theorem xDrop_ap : xDrop fx sl io = (fx sl io).map (xdropK sl) := rfl
def xsetK (i : Nat) (sl : List S) : FO × IO → XR := fun p => match p.1 with
  | .ok a => .r (.nx (sl.set i (slotOf a)) p.2)
  | .ex e => .ex e sl p.2
@[simp] theorem xsetK_ok {i : Nat} {x : A} : xsetK i sl (.ok x, io) = .r (.nx (sl.set i (slotOf x)) io) := rfl
@[simp] theorem xsetK_ex {i : Nat} {e : EX} : xsetK i sl (.ex e, io) = .ex e sl io := rfl
@[simp] theorem xSet_ap {i : Nat} : xSet i fx sl io = (fx sl io).map (xsetK i sl) := rfl
def xforK (tg : Tg) (p : DXS) (sl : List S) : (List D × Chk) × IO → Option XR := fun x => forGoX x.1.2 tg p x.1.1 sl x.2
@[simp] theorem xforK_ap {tg : Tg} {items : List D} {c : Chk} : xforK tg p sl ((items, c), io) = forGoX c tg p items sl io := rfl
@[simp] theorem xFor_ap {it : DI} {tg : Tg} : xFor it tg p sl io = (it sl io).bind (xforK tg p sl) := rfl
def xraiseK (n f : Str) (sl : List S) : List A × IO → Option XR := fun p => match p.1 with
  | [.dat v] => if im v = true then some (.ex ⟨n, some (f, v)⟩ sl p.2) else none
  | _ => none
@[simp] theorem xraiseK_ap {n f : Str} {v : D} : xraiseK n f sl ([.dat v], io) = if im v = true then some (.ex ⟨n, some (f, v)⟩ sl io) else none := rfl
@[simp] theorem xRaise_ap {n f : Str} : xRaise n f a sl io = (a sl io).bind (xraiseK n f sl) := rfl
def xtryK (cn : Str) (i : Nat) (su : DS) : XR → Option R := fun o => match o with
  | .r r => some r
  | .ex e sl' io' => if e.cls = cn then (su (sl'.set i (.dat (exData e))) io').map (unslot i) else none
@[simp] theorem xtryK_r {cn : Str} {i : Nat} {su : DS} {r : R} : xtryK cn i su (.r r) = some r := rfl
@[simp] theorem xtryK_ex {cn : Str} {i : Nat} {su : DS} {e : EX} : xtryK cn i su (.ex e sl io) = if e.cls = cn then (su (sl.set i (.dat (exData e))) io).map (unslot i) else none := rfl
@[simp] theorem xTry_ap {cn : Str} {i : Nat} {su : DS} : xTry p cn i su sl io = (p sl io).bind (xtryK cn i su) := rfl
@[simp] theorem unslot_nx {i : Nat} : unslot i (.nx sl io) = .nx (sl.set i .un) io := rfl
@[simp] theorem unslot_rt {i : Nat} {x : A} : unslot i (.rt x io) = .rt x io := rfl
theorem exData_1 {n f : Str} {v : D} : exData ⟨n, some (f, v)⟩ = .dict [(.str n, .str f), (.str f, v)] := rfl
@[simp] theorem dIsx_dict {tab : Str → Option Bool} {n : Str} {d : D} {r : List (D × D)} (h : f sl io = some (.dat (.dict ((.str n, d) :: r)), io')) : dIsx tab f sl io = (tab n).map fun b => (.dat (.bool b), io') := by
  unfold dIsx; rw [h]; rfl
@[simp] theorem dFld_dict {at_ n f1 f2 : Str} {okc : Str → Bool} {v : D} (h : f sl io = some (.dat (.dict [(.str n, .str f1), (.str f2, v)]), io')) : dFld at_ okc f sl io = if f1 = at_ ∧ okc n = true then some (.dat v, io') else none := by
  unfold dFld; rw [h]; rfl
/-! ### loops and defs -/
theorem forGoX_nil {c : Chk} {tg : Tg} : forGoX c tg p [] sl io = if chk c io = true then some (.r (.nx sl io)) else none := rfl
def fgxK (c : Chk) (tg : Tg) (p : DXS) (r : List D) : XR → Option XR := fun x => match x with
    | .r (.nx sl2 io2) => forGoX c tg p r sl2 io2
    | .r (.ct sl2 io2) => forGoX c tg p r sl2 io2
    | .r (.bk sl2 io2) => some (.r (.nx sl2 io2))
    | .r (.rt a io2) => some (.r (.rt a io2))
    | .ex e sl2 io2 => some (.ex e sl2 io2)
@[simp] theorem fgxK_nx {c : Chk} {tg : Tg} {r : List D} : fgxK c tg p r (.r (.nx sl io)) = forGoX c tg p r sl io := rfl
@[simp] theorem fgxK_ct {c : Chk} {tg : Tg} {r : List D} : fgxK c tg p r (.r (.ct sl io)) = forGoX c tg p r sl io := rfl
@[simp] theorem fgxK_rt {c : Chk} {tg : Tg} {r : List D} {x : A} : fgxK c tg p r (.r (.rt x io)) = some (.r (.rt x io)) := rfl
@[simp] theorem fgxK_ex {c : Chk} {tg : Tg} {r : List D} {e : EX} : fgxK c tg p r (.ex e sl io) = some (.ex e sl io) := rfl
theorem forGoX_cons1 {i : Nat} {d : D} {r : List D} : forGoX none (.one i) p (d :: r) sl io = (p (sl.set i (.dat d)) io).bind (fgxK none (.one i) p r) := rfl
def fgK (c : Chk) (tg : Tg) (p : DS) (r : List D) : R → Option R := fun x => match x with
    | .nx sl2 io2 => forGo c tg p r sl2 io2
    | .ct sl2 io2 => forGo c tg p r sl2 io2
    | .bk sl2 io2 => some (.nx sl2 io2)
    | .rt a io2 => some (.rt a io2)
@[simp] theorem fgK_nx {c : Chk} {tg : Tg} {p : DS} {r : List D} : fgK c tg p r (.nx sl io) = forGo c tg p r sl io := rfl
@[simp] theorem fgK_ct {c : Chk} {tg : Tg} {p : DS} {r : List D} : fgK c tg p r (.ct sl io) = forGo c tg p r sl io := rfl
@[simp] theorem fgK_bk {c : Chk} {tg : Tg} {p : DS} {r : List D} : fgK c tg p r (.bk sl io) = some (.nx sl io) := rfl
@[simp] theorem fgK_rt {c : Chk} {tg : Tg} {p : DS} {r : List D} {x : A} : fgK c tg p r (.rt x io) = some (.rt x io) := rfl
theorem forGo_cons1 {i : Nat} {p : DS} {d : D} {r : List D} : forGo none (.one i) p (d :: r) sl io = (p (sl.set i (.dat d)) io).bind (fgK none (.one i) p r) := rfl
theorem forGo_nil0 {tg : Tg} {p : DS} : forGo none tg p [] sl io = some (.nx sl io) := rfl
theorem forGoX_nil0 {tg : Tg} : forGoX none tg p [] sl io = some (.r (.nx sl io)) := rfl
theorem rng_nil {lo : Int} : rngItems lo 0 = [] := rfl
theorem rng_succ (lo : Int) (m : Nat) : rngItems lo (m + 1) = .int lo :: rngItems (lo + 1) m := by
  unfold rngItems
  rw [List.range_succ_eq_map, List.map_cons, List.map_map]
  congr 1
  · simp
  · refine List.map_congr_left fun i _ => ?_
    show PyData.int _ = PyData.int _
    congr 1
    show lo + ((i + 1 : Nat) : Int) = lo + 1 + (i : Int)
    omega
theorem runX_dat {np ns : Nat} {body : DXS} {ds : List D} {d : D} (hl : ds.length = np) (h : ∃ io, body (slots ns (ds.map .dat)) [] = some (.r (.rt (.dat d) io))) (hi : im d = true) : runX np ns body ds = some (.ok (.dat d)) := by
  obtain ⟨io, e⟩ := h
  unfold runX
  rw [if_pos hl, e]
  simp [hi]
theorem runX_nx {np ns : Nat} {body : DXS} {ds : List D} (hl : ds.length = np) (h : ∃ sl io, body (slots ns (ds.map .dat)) [] = some (.r (.nx sl io))) : runX np ns body ds = some (.ok (.dat .none)) := by
  obtain ⟨sl, io, e⟩ := h
  unfold runX
  rw [if_pos hl, e]
  rfl
theorem runX_ex {np ns : Nat} {body : DXS} {ds : List D} {x : EX} (hl : ds.length = np) (h : ∃ sl io, body (slots ns (ds.map .dat)) [] = some (.ex x sl io)) : runX np ns body ds = some (.ex x) := by
  obtain ⟨sl, io, e⟩ := h
  unfold runX
  rw [if_pos hl, e]
  rfl
end
end DD
set_option Elab.async false
set_option linter.all false
set_option maxRecDepth 100000
namespace K75
open PySem PySem.Spec PyProof.Rows L2 DD
/-! the denotations, printed by gen.py -/
def sub_InvalidCatalog (n : Str) : Option Bool := if n = "InvalidWords" then some false else none
def sub_InvalidChoice (n : Str) : Option Bool := if n = "InvalidWords" then some false else none
def sub_InvalidCommand (n : Str) : Option Bool := if n = "InvalidWords" then some false else none
def sub_InvalidDoor (n : Str) : Option Bool := if n = "InvalidWords" then some false else none
def sub_InvalidIndex (n : Str) : Option Bool := if n = "InvalidWords" then some false else none
def sub_InvalidKey (n : Str) : Option Bool := if n = "InvalidWords" then some false else none
def sub_InvalidLocale (n : Str) : Option Bool := if n = "InvalidWords" then some false else none
def sub_InvalidPage (n : Str) : Option Bool := if n = "InvalidWords" then some false else none
def sub_InvalidText (n : Str) : Option Bool := if n = "InvalidWords" then some false else none
def sub_InvalidTree (n : Str) : Option Bool := if n = "InvalidWords" then some false else none
def sub_InvalidWay (n : Str) : Option Bool := if n = "InvalidWords" then some false else none
def sub_InvalidWishes (n : Str) : Option Bool := if n = "InvalidWords" then some false else none
def sub_InvalidWords (n : Str) : Option Bool := if n = "InvalidWords" then some true else none
def sub_Mixed (n : Str) : Option Bool := if n = "InvalidWords" then some false else none
def sub_Needless (n : Str) : Option Bool := if n = "InvalidWords" then some false else none
def sub_NoBlock (n : Str) : Option Bool := if n = "InvalidWords" then some false else none
def sub_NothingThere (n : Str) : Option Bool := if n = "InvalidWords" then some false else none
def sub_NothingToUndo (n : Str) : Option Bool := if n = "InvalidWords" then some false else none
def sub_Unlike (n : Str) : Option Bool := if n = "InvalidWords" then some false else none
def sub_ValueError (n : Str) : Option Bool := if n = "InvalidWords" then some true else none
def sub_WishError (n : Str) : Option Bool := if n = "InvalidWords" then some true else none
def okc_place (n : Str) : Bool := decide (n = "InvalidWords")
def d_is_integer : DS := dRet (dAndV (dIsi "int" (dVar 0)) (dNotV (dIsi "bool" (dVar 0))))
def run_is_integer : List D → Option A := runD 1 1 d_is_integer
def d_is_tree : DS := dSeq (dIf (dOrT (dNotT (dTru (dIsi "tuple" (dVar 0)))) (dOrT (dNotT (dTst (dChain leD leD (dC (.int 1)) (dCall lenD (dCons (dVar 0) (dNil))) (dC (.int 10))))) (dTst (dOp isntD (dOp idxD (dVar 0) (dC (.int 0))) (dC .none))))) (dRet (dC (.bool false))) (dNext)) (dSeq (dFor (dItR2 (dCons (dC (.int 1)) (dCons (dCall lenD (dCons (dVar 0) (dNil))) (dNil)))) (.one 1) (dIf (dOrT (dNotT (dTru (dFn run_is_integer (dCons (dOp idxD (dVar 0) (dVar 1)) (dNil))))) (dNotT (dTst (dChain leD ltD (dC (.int 0)) (dOp idxD (dVar 0) (dVar 1)) (dVar 1))))) (dRet (dC (.bool false))) (dNext))) (dRet (dC (.bool true))))
def run_is_tree : List D → Option A := runD 1 2 d_is_tree
def d_need_tree : DS := dIf (dNotT (dTru (dFn run_is_tree (dCons (dVar 0) (dNil))))) (dStuck) (dNext)
def run_need_tree : List D → Option A := runD 1 1 d_need_tree
def d_is_way : DS := dRet (dAndV (dIsi "str" (dVar 0)) (dOp inO (dVar 0) (dTup (dCons (dC (.str "key")) (dCons (dC (.str "bundle")) (dNil))))))
def run_is_way : List D → Option A := runD 1 1 d_is_way
def d_locale_read : DS := dSeq (dIf (dOrT (dTst (dOp neO (dCall lenD (dCons (dVar 0) (dNil))) (dC (.int 1)))) (dTst (dOp ninO (dVar 0) (dSl (dC (.str "abcdefghij")) (dNo) (dPart (dVar 1)))))) (dRet (dC .none)) (dNext)) (dRet (dMeth indexD (dC (.str "abcdefghij")) (dCons (dVar 0) (dNil))))
def run_locale_read : List D → Option A := runD 2 2 d_locale_read
def d_row_read : DS := dSeq (dIf (dNotT (dTst (dChain leD leD (dC (.int 1)) (dCall lenD (dCons (dVar 0) (dNil))) (dC (.int 4))))) (dRet (dC .none)) (dNext)) (dSeq (dOwn 1 (dLst (dNil))) (dSeq (dFor (dItS (dVar 0)) (.one 2) (dSeq (dIf (dTst (dOp ninO (dVar 2) (dC (.str "0123456789-")))) (dRet (dC .none)) (dNext)) (dApp 1 (dIfE (dTst (dOp eqO (dVar 2) (dC (.str "-")))) (dC .none) (dMeth indexD (dC (.str "0123456789-")) (dCons (dVar 2) (dNil))))))) (dRet (dCall tupleD (dCons (dVar 1) (dNil))))))
def run_row_read : List D → Option A := runD 1 3 d_row_read
def d_none_written : DXS := xSeq (xIf (xT (dTst (dOp leD (dCall lenD (dCons (dVar 0) (dNil))) (dVar 1)))) (xRaise "InvalidWords" "place" (dCons (dCall lenD (dCons (dVar 0) (dNil))) (dNil))) (xS (dNext))) (xSeq (xS (dIf (dTst (dOp neO (dOp idxD (dVar 0) (dVar 1)) (dC (.str "-")))) (dRet (dC (.bool false))) (dNext))) (xSeq (xIf (xT (dTst (dOp gtD (dCall lenD (dCons (dVar 0) (dNil))) (dOp addD (dVar 1) (dC (.int 1)))))) (xRaise "InvalidWords" "place" (dCons (dOp addD (dVar 1) (dC (.int 1))) (dNil))) (xS (dNext))) (xS (dRet (dC (.bool true))))))
def run_none_written : List D → Option FO := runX 2 2 d_none_written
def d_locales_read : DXS := xSeq (xIf (xTru (xFn run_none_written (dCons (dVar 0) (dCons (dVar 1) (dNil))))) (xS (dRet (dTup (dNil)))) (xS (dNext))) (xSeq (xS (dOwn 4 (dLst (dNil)))) (xSeq (xFor (dItR2 (dCons (dVar 1) (dCons (dCall lenD (dCons (dVar 0) (dNil))) (dNil)))) (.one 5) (xSeq (xS (dSet 6 (dFn run_locale_read (dCons (dOp idxD (dVar 0) (dVar 5)) (dCons (dVar 2) (dNil)))))) (xSeq (xIf (xT (dOrT (dTst (dOp isD (dVar 6) (dC .none))) (dAndT (dTru (dVar 3)) (dAndT (dTst (dOp neO (dVar 4) (dLst (dNil)))) (dTst (dOp leD (dVar 6) (dOp idxD (dVar 4) (dNeg (dC (.int 1)))))))))) (xRaise "InvalidWords" "place" (dCons (dVar 5) (dNil))) (xS (dNext))) (xS (dApp 4 (dVar 6)))))) (xS (dRet (dCall tupleD (dCons (dVar 4) (dNil)))))))
def run_locales_read : List D → Option FO := runX 4 7 d_locales_read
def d_pairs_read : DXS := xSeq (xIf (xTru (xFn run_none_written (dCons (dVar 0) (dCons (dVar 1) (dNil))))) (xS (dRet (dTup (dNil)))) (xS (dNext))) (xSeq (xS (dOwn 3 (dLst (dNil)))) (xSeq (xFor (dItR2 (dCons (dVar 1) (dCons (dCall lenD (dCons (dVar 0) (dNil))) (dNil)))) (.one 4) (xSeq (xS (dSet 5 (dOp idxD (dVar 0) (dVar 4)))) (xSeq (xS (dSet 6 (dFn run_locale_read (dCons (dSl (dVar 5) (dNo) (dPart (dC (.int 1)))) (dCons (dVar 2) (dNil)))))) (xSeq (xS (dSet 7 (dFn run_locale_read (dCons (dSl (dVar 5) (dPart (dC (.int 2))) (dNo)) (dCons (dVar 2) (dNil)))))) (xSeq (xIf (xT (dOrT (dTst (dOp isD (dVar 6) (dC .none))) (dOrT (dTst (dOp isD (dVar 7) (dC .none))) (dTst (dOp neO (dOp idxD (dVar 5) (dC (.int 1))) (dC (.str ">"))))))) (xRaise "InvalidWords" "place" (dCons (dVar 4) (dNil))) (xS (dNext))) (xSeq (xIf (xT (dAndT (dTst (dOp neO (dVar 3) (dLst (dNil)))) (dTst (dOp leD (dVar 6) (dOp idxD (dOp idxD (dVar 3) (dNeg (dC (.int 1)))) (dC (.int 0))))))) (xRaise "InvalidWords" "place" (dCons (dVar 4) (dNil))) (xS (dNext))) (xS (dApp 3 (dTup (dCons (dVar 6) (dCons (dVar 7) (dNil)))))))))))) (xS (dRet (dCall tupleD (dCons (dVar 3) (dNil)))))))
def run_pairs_read : List D → Option FO := runX 3 8 d_pairs_read
def d_parents_read : DXS := xSeq (xS (dOwn 3 (dLst (dCons (dC .none) (dNil))))) (xSeq (xFor (dItR2 (dCons (dVar 1) (dCons (dVar 2) (dNil)))) (.one 4) (xSeq (xS (dSet 5 (dFn run_locale_read (dCons (dOp idxD (dVar 0) (dVar 4)) (dCons (dCall lenD (dCons (dVar 3) (dNil))) (dNil)))))) (xSeq (xIf (xT (dOrT (dTst (dOp isD (dVar 5) (dC .none))) (dTst (dOp eqO (dCall lenD (dCons (dVar 3) (dNil))) (dC (.int 10)))))) (xRaise "InvalidWords" "place" (dCons (dVar 4) (dNil))) (xS (dNext))) (xS (dApp 3 (dVar 5)))))) (xS (dRet (dCall tupleD (dCons (dVar 3) (dNil))))))
def run_parents_read : List D → Option FO := runX 3 6 d_parents_read
def d_rows_read : DXS := xSeq (xS (dOwn 3 (dLst (dNil)))) (xSeq (xFor (dItR2 (dCons (dVar 1) (dCons (dOp addD (dVar 1) (dVar 2)) (dNil)))) (.one 4) (xSeq (xIf (xT (dTst (dOp eqO (dVar 4) (dCall lenD (dCons (dVar 0) (dNil)))))) (xRaise "InvalidWords" "place" (dCons (dVar 4) (dNil))) (xS (dNext))) (xSeq (xS (dSet 5 (dFn run_row_read (dCons (dOp idxD (dVar 0) (dVar 4)) (dNil))))) (xSeq (xIf (xT (dOrT (dTst (dOp isD (dVar 5) (dC .none))) (dAndT (dTst (dOp neO (dVar 3) (dLst (dNil)))) (dTst (dOp neO (dCall lenD (dCons (dVar 5) (dNil))) (dCall lenD (dCons (dOp idxD (dVar 3) (dC (.int 0))) (dNil)))))))) (xRaise "InvalidWords" "place" (dCons (dVar 4) (dNil))) (xS (dNext))) (xS (dApp 3 (dVar 5))))))) (xSeq (xIf (xT (dTst (dOp gtD (dCall lenD (dCons (dVar 0) (dNil))) (dOp addD (dVar 1) (dVar 2))))) (xRaise "InvalidWords" "place" (dCons (dOp addD (dVar 1) (dVar 2)) (dNil))) (xS (dNext))) (xS (dRet (dCall tupleD (dCons (dVar 3) (dNil)))))))
def run_rows_read : List D → Option FO := runX 3 6 d_rows_read
def d_read_wishes : DXS := xSeq (xS (dDrop (dFn run_need_tree (dCons (dVar 0) (dNil))))) (xRet (xFn run_locales_read (dCons (dMeth splitD (dVar 1) (dCons (dC (.str " ")) (dNil))) (dCons (dC (.int 0)) (dCons (dCall lenD (dCons (dVar 0) (dNil))) (dCons (dC (.bool false)) (dNil)))))))
def run_read_wishes : List D → Option FO := runX 2 2 d_read_wishes
def d_read_tree : DXS := xSeq (xS (dSet 1 (dMeth splitD (dVar 0) (dCons (dC (.str " ")) (dNil))))) (xSeq (xIf (xT (dTst (dOp neO (dOp idxD (dVar 1) (dC (.int 0))) (dC (.str "tree"))))) (xRaise "InvalidWords" "place" (dCons (dC (.int 0)) (dNil))) (xS (dNext))) (xRet (xFn run_parents_read (dCons (dVar 1) (dCons (dC (.int 1)) (dCons (dCall lenD (dCons (dVar 1) (dNil))) (dNil)))))))
def run_read_tree : List D → Option FO := runX 1 2 d_read_tree
def d_read_catalog : DXS := xSeq (xS (dSet 1 (dMeth splitD (dVar 0) (dCons (dC (.str " ")) (dNil))))) (xSeq (xIf (xT (dNotT (dTru (dFn run_is_way (dCons (dOp idxD (dVar 1) (dC (.int 0))) (dNil)))))) (xRaise "InvalidWords" "place" (dCons (dC (.int 0)) (dNil))) (xS (dNext))) (xSeq (xIf (xT (dOrT (dTst (dOp eqO (dCall lenD (dCons (dVar 1) (dNil))) (dC (.int 1)))) (dTst (dOp neO (dOp idxD (dVar 1) (dC (.int 1))) (dC (.str "tree")))))) (xRaise "InvalidWords" "place" (dCons (dC (.int 1)) (dNil))) (xS (dNext))) (xSeq (xS (dSet 2 (dC (.int 2)))) (xSeq (xS (whGo (dAndT (dTst (dOp ltD (dVar 2) (dCall lenD (dCons (dVar 1) (dNil))))) (dTst (dOp neO (dOp idxD (dVar 1) (dVar 2)) (dC (.str "rows"))))) (dAugI 2 (fun i j => some (i + j)) (dC (.int 1))) FUEL)) (xSeq (xSet 3 (xFn run_parents_read (dCons (dVar 1) (dCons (dC (.int 2)) (dCons (dVar 2) (dNil)))))) (xSeq (xIf (xT (dTst (dOp eqO (dVar 2) (dCall lenD (dCons (dVar 1) (dNil)))))) (xRaise "InvalidWords" "place" (dCons (dVar 2) (dNil))) (xS (dNext))) (xRet (xTup (xCons (xE (dVar 3)) (xCons (xE (dOp idxD (dVar 1) (dC (.int 0)))) (xCons (xFn run_rows_read (dCons (dVar 1) (dCons (dOp addD (dVar 2) (dC (.int 1))) (dCons (dCall lenD (dCons (dVar 3) (dNil))) (dNil))))) (xNil))))))))))))
def run_read_catalog : List D → Option FO := runX 1 4 d_read_catalog
def d_read_door : DXS := xSeq (xS (dDrop (dFn run_need_tree (dCons (dVar 0) (dNil))))) (xSeq (xS (dSet 2 (dMeth splitD (dVar 1) (dCons (dC (.str " ")) (dNil))))) (xSeq (xS (dSet 3 (dOp idxD (dVar 2) (dC (.int 0))))) (xSeq (xIf (xT (dTst (dOp eqO (dVar 3) (dC (.str "swap"))))) (xRet (xTup (xCons (xE (dVar 3)) (xCons (xFn run_pairs_read (dCons (dVar 2) (dCons (dC (.int 1)) (dCons (dCall lenD (dCons (dVar 0) (dNil))) (dNil))))) (xNil))))) (xS (dNext))) (xSeq (xIf (xT (dTst (dOp inO (dVar 3) (dTup (dCons (dC (.str "only")) (dCons (dC (.str "lift")) (dCons (dC (.str "head")) (dCons (dC (.str "pad")) (dNil))))))))) (xRet (xTup (xCons (xE (dVar 3)) (xCons (xFn run_locales_read (dCons (dVar 2) (dCons (dC (.int 1)) (dCons (dCall lenD (dCons (dVar 0) (dNil))) (dCons (dOp inO (dVar 3) (dTup (dCons (dC (.str "only")) (dCons (dC (.str "lift")) (dNil))))) (dNil)))))) (xNil))))) (xS (dNext))) (xRaise "InvalidWords" "place" (dCons (dC (.int 0)) (dNil)))))))
def run_read_door : List D → Option FO := runX 2 4 d_read_door
def d__law_pull : DS := dSeq (dIf (dTst (dOp gtD (dOp idxD (dVar 0) (dC (.int 0))) (dC (.int 0)))) (dSeq (dSet 2 (dOp modD (dCall intD (dCons (dOp idxD (dVar 0) (dC (.int 0))) (dNil))) (dVar 1))) (dSeq (dPut (dVar 0) (dC (.int 0)) (dOp fdivD (dOp idxD (dVar 0) (dC (.int 0))) (dVar 1))) (dRet (dVar 2)))) (dNext)) (dSeq (dPut (dVar 0) (dC (.int 2)) (dOp addD (dOp idxD (dVar 0) (dC (.int 2))) (dC (.int 1)))) (dSeq (dSet 3 (dOp modD (dCall intD (dCons (dOp addD (dOp addD (dOp idxD (dVar 0) (dC (.int 1))) (dOp mulD (dOp mulD (dC (.int 104729)) (dOp idxD (dVar 0) (dC (.int 2)))) (dOp idxD (dVar 0) (dC (.int 2))))) (dOp mulD (dC (.int 31)) (dOp idxD (dVar 0) (dC (.int 2))))) (dNil))) (dC (.int 2147483629)))) (dSeq (dSet 3 (dOp modD (dCall intD (dCons (dOp addD (dOp addD (dOp mulD (dVar 3) (dVar 3)) (dOp mulD (dC (.int 48271)) (dOp idxD (dVar 0) (dC (.int 2))))) (dC (.int 5))) (dNil))) (dC (.int 2147483563)))) (dSeq (dSet 3 (dOp modD (dCall intD (dCons (dOp mulD (dVar 3) (dVar 3)) (dNil))) (dC (.int 2147483399)))) (dRet (dOp modD (dCall intD (dCons (dOp fdivD (dVar 3) (dC (.int 16))) (dNil))) (dVar 1)))))))
def run__law_pull : List D → List D → Option (A × List D) := runJ 2 4 d__law_pull
def d__law_other_word : DS := dSeq (dSet 2 (dFnJ run__law_pull (dCons (dVar 0) (dCons (dC (.int 7)) (dNil))))) (dSeq (dSet 3 (dFnJ run__law_pull (dCons (dVar 0) (dCons (dOp addD (dCall lenD (dCons (dVar 1) (dNil))) (dC (.int 1))) (dNil))))) (dSeq (dSet 4 (dOp idxD (dC (.str "abcdefghijklmnopqrstuvwxyz0123456789->ABCXYZ.,+_\n")) (dFnJ run__law_pull (dCons (dVar 0) (dCons (dC (.int 49)) (dNil)))))) (dSeq (dIf (dTst (dOp eqO (dVar 2) (dC (.int 0)))) (dRet (dOp addD (dOp addD (dSl (dVar 1) (dNo) (dPart (dVar 3))) (dVar 4)) (dSl (dVar 1) (dPart (dVar 3)) (dNo)))) (dNext)) (dSeq (dIf (dTst (dOp eqO (dVar 2) (dC (.int 1)))) (dRet (dOp addD (dSl (dVar 1) (dNo) (dPart (dVar 3))) (dSl (dVar 1) (dPart (dOp addD (dVar 3) (dC (.int 1)))) (dNo)))) (dNext)) (dSeq (dIf (dTst (dOp eqO (dVar 2) (dC (.int 2)))) (dRet (dOp addD (dOp addD (dSl (dVar 1) (dNo) (dPart (dVar 3))) (dVar 4)) (dSl (dVar 1) (dPart (dOp addD (dVar 3) (dC (.int 1)))) (dNo)))) (dNext)) (dSeq (dIf (dTst (dOp eqO (dVar 2) (dC (.int 3)))) (dRet (dVar 4)) (dNext)) (dSeq (dSet 5 (dLst (dCons (dC (.str "")) (dCons (dC (.str "-")) (dCons (dC (.str "rows")) (dCons (dC (.str "tree")) (dCons (dC (.str "key")) (dCons (dC (.str "bundle")) (dCons (dC (.str "only")) (dCons (dC (.str "swap")) (dCons (dC (.str "pad")) (dCons (dC (.str "a")) (dCons (dC (.str "b")) (dCons (dC (.str "j")) (dCons (dC (.str "k")) (dCons (dC (.str "b>c")) (dCons (dC (.str "b>b")) (dCons (dC (.str "c>b")) (dNil))))))))))))))))))) (dSeq (dSet 5 (dOp addD (dVar 5) (dLst (dCons (dC (.str "0")) (dCons (dC (.str "9")) (dCons (dC (.str "10")) (dCons (dC (.str "-0")) (dCons (dC (.str "--")) (dCons (dC (.str "5-")) (dCons (dC (.str "12345")) (dCons (dC (.str "tr\n")) (dCons (dC (.str "A")) (dCons (dC (.str "try")) (dCons (dC (.str "a,b")) (dCons (dC (.str "a\n")) (dCons (dC (.str "undo\n")) (dNil))))))))))))))))) (dRet (dOp idxD (dVar 5) (dFnJ run__law_pull (dCons (dVar 0) (dCons (dC (.int 29)) (dNil))))))))))))))
def run__law_other_word : List D → List D → Option (A × List D) := runJ 2 6 d__law_other_word
def d__law_letters : DS := dSeq (dIf (dTst (dOp eqO (dCall listD (dCons (dVar 0) (dNil))) (dLst (dNil)))) (dRet (dC (.str "-"))) (dNext)) (dRet (dMeth joinD (dC (.str " ")) (dCons (dLc (dItS (dVar 0)) (.one 1) (dYes) (dOp idxD (dC (.str "abcdefghij")) (dVar 1)) [1]) (dNil))))
def run__law_letters : List D → Option A := runD 1 2 d__law_letters
def d__law_up : DS := dSeq (dOwn 2 (dLst (dCons (dVar 1) (dNil)))) (dSeq (whGo (dAndT (dTst (dOp isntD (dOp idxD (dVar 0) (dOp idxD (dVar 2) (dNeg (dC (.int 1))))) (dC .none))) (dTst (dOp gtD (dOp idxD (dVar 0) (dOp idxD (dVar 2) (dNeg (dC (.int 1))))) (dC (.int 0))))) (dApp 2 (dOp idxD (dVar 0) (dOp idxD (dVar 2) (dNeg (dC (.int 1)))))) FUEL) (dRet (dVar 2)))
def run__law_up : List D → Option A := runD 2 3 d__law_up
def d__law_some_asks : DS := dSeq (dSet 3 (dCall minD (dCons (dVar 2) (dCons (dOp idxD (dLst (dCons (dC (.int 0)) (dCons (dC (.int 1)) (dCons (dC (.int 2)) (dCons (dC (.int 3)) (dCons (dC (.int 4)) (dCons (dC (.int 6)) (dCons (dOp fdivD (dVar 2) (dC (.int 2))) (dCons (dVar 2) (dNil)))))))))) (dFnJ run__law_pull (dCons (dVar 0) (dCons (dC (.int 8)) (dNil))))) (dNil))))) (dSeq (dSet 4 (dTup (dNil))) (dSeq (dFor (dItR1 (dCons (dVar 3) (dNil))) (.one 5) (dSeq (dSet 6 (dFnJ run__law_pull (dCons (dVar 0) (dCons (dC (.int 8)) (dNil))))) (dSeq (dSet 7 (dC (.int 0))) (dSeq (dIf (dTst (dOp gtD (dVar 6) (dC (.int 0)))) (dSet 7 (dFnJ run__law_pull (dCons (dVar 0) (dCons (dCall lenD (dCons (dVar 1) (dNil))) (dNil))))) (dNext)) (dSeq (dIf (dAndT (dTst (dOp gtD (dVar 6) (dC (.int 5)))) (dTst (dOp neO (dVar 4) (dTup (dNil))))) (dSeq (dSet 8 (dFn run__law_up (dCons (dVar 1) (dCons (dOp idxD (dVar 4) (dFnJ run__law_pull (dCons (dVar 0) (dCons (dCall lenD (dCons (dVar 4) (dNil))) (dNil))))) (dNil))))) (dSet 7 (dOp idxD (dVar 8) (dFnJ run__law_pull (dCons (dVar 0) (dCons (dCall lenD (dCons (dVar 8) (dNil))) (dNil))))))) (dNext)) (dSet 4 (dOp addD (dVar 4) (dTup (dCons (dVar 7) (dNil)))))))))) (dRet (dVar 4))))
def run__law_some_asks : List D → List D → Option (A × List D) := runJ 3 9 d__law_some_asks
def d__law_world_words : DS := dRet (dMeth joinD (dC (.str " ")) (dCons (dOp addD (dLst (dCons (dC (.str "tree")) (dNil))) (dLc (dItS (dSl (dVar 0) (dPart (dC (.int 1))) (dNo))) (.one 1) (dYes) (dOp idxD (dC (.str "abcdefghij")) (dVar 1)) [1])) (dNil)))
def run__law_world_words : List D → Option A := runD 1 2 d__law_world_words
def d__law_word_of : DS := dRet (dMeth joinD (dC (.str "")) (dCons (dLc (dItS (dVar 0)) (.one 1) (dYes) (dOp idxD (dLst (dCons (dC (.str "-")) (dCons (dCall strND (dCons (dVar 1) (dNil))) (dNil)))) (dCall intD (dCons (dOp isntD (dVar 1) (dC .none)) (dNil)))) [1]) (dNil)))
def run__law_word_of : List D → Option A := runD 1 2 d__law_word_of
def d__law_book_words : DS := dRet (dMeth joinD (dC (.str " ")) (dCons (dOp addD (dLst (dCons (dOp idxD (dVar 0) (dC (.int 1))) (dCons (dFn run__law_world_words (dCons (dOp idxD (dVar 0) (dC (.int 0))) (dNil))) (dCons (dC (.str "rows")) (dNil))))) (dLc (dItS (dOp idxD (dVar 0) (dC (.int 2)))) (.one 1) (dYes) (dFn run__law_word_of (dCons (dVar 1) (dNil))) [1])) (dNil)))
def run__law_book_words : List D → Option A := runD 1 2 d__law_book_words
def d__law_some_book : DS := dSeq (dSet 4 (dFnJ run__law_pull (dCons (dVar 0) (dCons (dC (.int 8)) (dNil))))) (dSeq (dSet 5 (dOp idxD (dLst (dCons (dC (.int 1)) (dCons (dC (.int 2)) (dCons (dC (.int 3)) (dCons (dC (.int 10)) (dNil)))))) (dFnJ run__law_pull (dCons (dVar 0) (dCons (dC (.int 4)) (dNil)))))) (dSeq (dSet 6 (dFnJ run__law_pull (dCons (dVar 0) (dCons (dC (.int 10)) (dNil))))) (dSeq (dOwn 7 (dLst (dNil))) (dSeq (dFor (dItR1 (dCons (dCall lenD (dCons (dVar 1) (dNil))) (dNil))) (.one 8) (dSeq (dOwn 9 (dLst (dNil))) (dSeq (dFor (dItR1 (dCons (dVar 3) (dNil))) (.one 10) (dSeq (dSet 11 (dC .none)) (dSeq (dIf (dTst (dOp ltD (dFnJ run__law_pull (dCons (dVar 0) (dCons (dC (.int 6)) (dNil)))) (dOp idxD (dLst (dCons (dC (.int 0)) (dCons (dC (.int 6)) (dCons (dC (.int 4)) (dCons (dC (.int 1)) (dCons (dC (.int 4)) (dCons (dC (.int 3)) (dCons (dC (.int 3)) (dCons (dC (.int 2)) (dNil)))))))))) (dVar 4)))) (dSeq (dSet 11 (dOp modD (dCall intD (dCons (dOp addD (dVar 6) (dOp mulD (dFnJ run__law_pull (dCons (dVar 0) (dCons (dVar 5) (dNil)))) (dCall intD (dCons (dOp neO (dVar 4) (dC (.int 5))) (dNil))))) (dNil))) (dC (.int 10)))) (dIf (dAndT (dTst (dOp gtD (dVar 4) (dC (.int 5)))) (dAndT (dTst (dOp gtD (dVar 8) (dC (.int 0)))) (dTst (dOp eqO (dFnJ run__law_pull (dCons (dVar 0) (dCons (dC (.int 2)) (dNil)))) (dC (.int 0)))))) (dSet 11 (dOp idxD (dOp idxD (dVar 7) (dOp idxD (dLst (dCons (dOp idxD (dVar 1) (dVar 8)) (dCons (dC (.int 0)) (dNil)))) (dFnJ run__law_pull (dCons (dVar 0) (dCons (dC (.int 2)) (dNil)))))) (dVar 10))) (dNext))) (dNext)) (dApp 9 (dVar 11))))) (dSeq (dApp 7 (dCall tupleD (dCons (dVar 9) (dNil)))) (dSeq (dIf (dAndT (dTst (dOp eqO (dVar 8) (dC (.int 0)))) (dTst (dOp eqO (dVar 4) (dC (.int 2))))) (dOwn 7 (dLst (dCons (dOp mulTD (dTup (dCons (dC .none) (dNil))) (dVar 3)) (dNil)))) (dNext)) (dIf (dAndT (dTst (dOp eqO (dVar 8) (dC (.int 0)))) (dTst (dOp eqO (dVar 4) (dC (.int 5))))) (dOwn 7 (dLst (dCons (dOp mulTD (dTup (dCons (dVar 6) (dNil))) (dVar 3)) (dNil)))) (dNext))))))) (dRet (dTup (dCons (dVar 1) (dCons (dVar 2) (dCons (dCall tupleD (dCons (dVar 7) (dNil))) (dNil))))))))))
def run__law_some_book : List D → List D → Option (A × List D) := runJ 4 12 d__law_some_book
def d__law_some_mode : DS := dRet (dOp idxD (dLst (dCons (dC (.str "key")) (dCons (dC (.str "bundle")) (dNil)))) (dFnJ run__law_pull (dCons (dVar 0) (dCons (dC (.int 2)) (dNil)))))
def run__law_some_mode : List D → List D → Option (A × List D) := runJ 1 1 d__law_some_mode
def d__law_door_words : DS := dSeq (dIf (dOrT (dTst (dOp neO (dOp idxD (dVar 0) (dC (.int 0))) (dC (.str "swap")))) (dTst (dOp eqO (dOp idxD (dVar 0) (dC (.int 1))) (dTup (dNil))))) (dRet (dOp addD (dOp addD (dOp idxD (dVar 0) (dC (.int 0))) (dC (.str " "))) (dFn run__law_letters (dCons (dLc (dItS (dOp idxD (dVar 0) (dC (.int 1)))) (.one 1) (dYes) (dVar 1) [1]) (dNil))))) (dNext)) (dRet (dMeth joinD (dC (.str " ")) (dCons (dOp addD (dLst (dCons (dC (.str "swap")) (dNil))) (dLc (dItS (dOp idxD (dVar 0) (dC (.int 1)))) (.many [2, 3]) (dYes) (dOp addD (dOp addD (dOp idxD (dC (.str "abcdefghij")) (dVar 2)) (dC (.str ">"))) (dOp idxD (dC (.str "abcdefghij")) (dVar 3))) [2, 3])) (dNil))))
def run__law_door_words : List D → Option A := runD 1 4 d__law_door_words
def d__law_some_door : DS := dSeq (dSet 2 (dOp idxD (dLst (dCons (dC (.str "only")) (dCons (dC (.str "lift")) (dCons (dC (.str "swap")) (dCons (dC (.str "head")) (dCons (dC (.str "pad")) (dNil))))))) (dFnJ run__law_pull (dCons (dVar 0) (dCons (dC (.int 5)) (dNil)))))) (dSeq (dSet 3 (dOp idxD (dLst (dCons (dC (.int 0)) (dCons (dC (.int 1)) (dCons (dC (.int 2)) (dCons (dC (.int 3)) (dCons (dC (.int 4)) (dNil))))))) (dFnJ run__law_pull (dCons (dVar 0) (dCons (dC (.int 5)) (dNil)))))) (dSeq (dIf (dOrT (dTst (dOp eqO (dVar 2) (dC (.str "head")))) (dTst (dOp eqO (dVar 2) (dC (.str "pad"))))) (dRet (dTup (dCons (dVar 2) (dCons (dFnJ run__law_some_asks (dCons (dVar 0) (dCons (dVar 1) (dCons (dOp idxD (dLst (dCons (dC (.int 0)) (dCons (dC (.int 1)) (dCons (dC (.int 3)) (dCons (dC (.int 6)) (dCons (dC (.int 39)) (dNil))))))) (dVar 3)) (dNil))))) (dNil))))) (dNext)) (dSeq (dSet 4 (dLc (dItR1 (dCons (dCall lenD (dCons (dVar 1) (dNil))) (dNil))) (.one 5) (dTst (dOp ltD (dFnJ run__law_pull (dCons (dVar 0) (dCons (dC (.int 4)) (dNil)))) (dVar 3))) (dVar 5) [5])) (dSeq (dIf (dTst (dOp eqO (dVar 2) (dC (.str "swap")))) (dRet (dTup (dCons (dVar 2) (dCons (dCall tupleD (dCons (dLc (dItS (dVar 4)) (.one 5) (dYes) (dTup (dCons (dVar 5) (dCons (dFnJ run__law_pull (dCons (dVar 0) (dCons (dCall lenD (dCons (dVar 1) (dNil))) (dNil)))) (dNil)))) [5]) (dNil))) (dNil))))) (dNext)) (dRet (dTup (dCons (dVar 2) (dCons (dCall tupleD (dCons (dVar 4) (dNil))) (dNil)))))))))
def run__law_some_door : List D → List D → Option (A × List D) := runJ 2 6 d__law_some_door
def d__law_other_words : DS := dSeq (dSet 2 (dFnJ run__law_pull (dCons (dVar 0) (dCons (dC (.int 8)) (dNil))))) (dSeq (dSet 3 (dFnJ run__law_pull (dCons (dVar 0) (dCons (dOp addD (dCall lenD (dCons (dVar 1) (dNil))) (dC (.int 1))) (dNil))))) (dSeq (dIf (dTst (dOp eqO (dVar 2) (dC (.int 0)))) (dRet (dOp addD (dSl (dVar 1) (dNo) (dPart (dVar 3))) (dSl (dVar 1) (dPart (dOp addD (dVar 3) (dC (.int 1)))) (dNo)))) (dNext)) (dSeq (dIf (dTst (dOp eqO (dVar 2) (dC (.int 1)))) (dRet (dOp addD (dOp addD (dSl (dVar 1) (dNo) (dPart (dVar 3))) (dSl (dVar 1) (dPart (dVar 3)) (dPart (dOp addD (dVar 3) (dC (.int 1)))))) (dSl (dVar 1) (dPart (dVar 3)) (dNo)))) (dNext)) (dSeq (dIf (dTst (dOp eqO (dVar 2) (dC (.int 2)))) (dRet (dOp addD (dOp addD (dSl (dVar 1) (dNo) (dPart (dVar 3))) (dLst (dCons (dFnJ run__law_other_word (dCons (dVar 0) (dCons (dC (.str "a")) (dNil)))) (dNil)))) (dSl (dVar 1) (dPart (dVar 3)) (dNo)))) (dNext)) (dSeq (dIf (dTst (dOp eqO (dVar 2) (dC (.int 3)))) (dRet (dOp addD (dOp addD (dSl (dVar 1) (dNo) (dPart (dVar 3))) (dRev (dSl (dVar 1) (dPart (dVar 3)) (dPart (dOp addD (dVar 3) (dC (.int 2))))))) (dSl (dVar 1) (dPart (dOp addD (dVar 3) (dC (.int 2)))) (dNo)))) (dNext)) (dSeq (dIf (dTst (dOp eqO (dVar 2) (dC (.int 4)))) (dRet (dOp addD (dOp addD (dSl (dVar 1) (dNo) (dPart (dVar 3))) (dLst (dCons (dMeth joinD (dC (.str "")) (dCons (dSl (dVar 1) (dPart (dVar 3)) (dPart (dOp addD (dVar 3) (dC (.int 2))))) (dNil))) (dNil)))) (dSl (dVar 1) (dPart (dOp addD (dVar 3) (dC (.int 2)))) (dNo)))) (dNext)) (dSeq (dIf (dTst (dOp eqO (dVar 2) (dC (.int 5)))) (dRet (dSl (dVar 1) (dNo) (dPart (dVar 3)))) (dNext)) (dRet (dOp addD (dOp addD (dSl (dVar 1) (dNo) (dPart (dVar 3))) (dLc (dItS (dSl (dVar 1) (dPart (dVar 3)) (dPart (dOp addD (dVar 3) (dC (.int 1)))))) (.one 4) (dYes) (dFnJ run__law_other_word (dCons (dVar 0) (dCons (dVar 4) (dNil)))) [4])) (dSl (dVar 1) (dPart (dOp addD (dVar 3) (dC (.int 1)))) (dNo)))))))))))
def run__law_other_words : List D → List D → Option (A × List D) := runJ 2 5 d__law_other_words
def d__law_letter : DS := dSeq (dIf (dAndT (dTst (dOp eqO (dCall lenD (dCons (dVar 0) (dNil))) (dC (.int 1)))) (dTst (dOp inO (dVar 0) (dSl (dC (.str "abcdefghij")) (dNo) (dPart (dVar 1)))))) (dRet (dMeth indexD (dC (.str "abcdefghij")) (dCons (dVar 0) (dNil)))) (dNext)) (dRet (dC .none))
def run__law_letter : List D → Option A := runD 2 2 d__law_letter
def d__law_spots_read : DS := dSeq (dIf (dTst (dOp eqO (dSl (dVar 0) (dPart (dVar 1)) (dNo)) (dLst (dNil)))) (dRet (dTup (dCons (dC .none) (dCons (dVar 1) (dNil))))) (dNext)) (dSeq (dIf (dTst (dOp eqO (dOp idxD (dVar 0) (dVar 1)) (dC (.str "-")))) (dSeq (dIf (dTst (dOp gtD (dCall lenD (dCons (dVar 0) (dNil))) (dOp addD (dVar 1) (dC (.int 1))))) (dRet (dTup (dCons (dC .none) (dCons (dOp addD (dVar 1) (dC (.int 1))) (dNil))))) (dNext)) (dRet (dTup (dCons (dTup (dNil)) (dCons (dC .none) (dNil)))))) (dNext)) (dSeq (dSet 4 (dTup (dNil))) (dSeq (dFor (dItR2 (dCons (dVar 1) (dCons (dCall lenD (dCons (dVar 0) (dNil))) (dNil)))) (.one 5) (dSeq (dSet 6 (dFn run__law_letter (dCons (dOp idxD (dVar 0) (dVar 5)) (dCons (dVar 2) (dNil))))) (dSeq (dIf (dOrT (dTst (dOp isD (dVar 6) (dC .none))) (dAndT (dTru (dVar 3)) (dAndT (dTst (dOp neO (dVar 4) (dTup (dNil)))) (dTst (dOp geD (dOp idxD (dVar 4) (dNeg (dC (.int 1)))) (dVar 6)))))) (dRet (dTup (dCons (dC .none) (dCons (dVar 5) (dNil))))) (dNext)) (dSet 4 (dOp addD (dVar 4) (dTup (dCons (dVar 6) (dNil)))))))) (dRet (dTup (dCons (dVar 4) (dCons (dC .none) (dNil))))))))
def run__law_spots_read : List D → Option A := runD 4 7 d__law_spots_read
def d__law_world_read : DS := dSeq (dIf (dTst (dOp neO (dSl (dVar 0) (dPart (dVar 1)) (dPart (dOp addD (dVar 1) (dC (.int 1))))) (dLst (dCons (dC (.str "tree")) (dNil))))) (dRet (dTup (dCons (dC .none) (dCons (dVar 1) (dNil))))) (dNext)) (dSeq (dSet 2 (dTup (dCons (dC .none) (dNil)))) (dSeq (dFor (dItR2 (dCons (dOp addD (dVar 1) (dC (.int 1))) (dCons (dCall lenD (dCons (dVar 0) (dNil))) (dNil)))) (.one 3) (dSeq (dIf (dAndT (dTst (dOp eqO (dVar 1) (dC (.int 1)))) (dTst (dOp eqO (dOp idxD (dVar 0) (dVar 3)) (dC (.str "rows"))))) (dRet (dTup (dCons (dVar 2) (dCons (dC .none) (dNil))))) (dNext)) (dSeq (dSet 4 (dFn run__law_letter (dCons (dOp idxD (dVar 0) (dVar 3)) (dCons (dCall lenD (dCons (dVar 2) (dNil))) (dNil))))) (dSeq (dIf (dOrT (dTst (dOp isD (dVar 4) (dC .none))) (dTst (dOp eqO (dCall lenD (dCons (dVar 2) (dNil))) (dC (.int 10))))) (dRet (dTup (dCons (dC .none) (dCons (dVar 3) (dNil))))) (dNext)) (dSet 2 (dOp addD (dVar 2) (dTup (dCons (dVar 4) (dNil))))))))) (dRet (dTup (dCons (dVar 2) (dCons (dC .none) (dNil)))))))
def run__law_world_read : List D → Option A := runD 2 5 d__law_world_read
def d__law_row_read : DS := dSeq (dSet 1 (dTup (dNil))) (dSeq (dFor (dItS (dVar 0)) (.one 2) (dSeq (dIf (dTst (dOp ninO (dVar 2) (dC (.str "0123456789-")))) (dRet (dC .none)) (dNext)) (dSet 1 (dOp addD (dVar 1) (dTup (dCons (dOp addD (dOp mulD (dLst (dCons (dC .none) (dNil))) (dCall intD (dCons (dOp eqO (dVar 2) (dC (.str "-"))) (dNil)))) (dLst (dCons (dMeth indexD (dC (.str "0123456789-")) (dCons (dVar 2) (dNil))) (dNil)))) (dNil))))))) (dSeq (dIf (dOrT (dTst (dOp ltD (dCall lenD (dCons (dVar 1) (dNil))) (dC (.int 1)))) (dTst (dOp gtD (dCall lenD (dCons (dVar 1) (dNil))) (dC (.int 4))))) (dRet (dC .none)) (dNext)) (dRet (dCall tupleD (dCons (dLc (dItS (dVar 1)) (.one 3) (dYes) (dOp idxD (dVar 3) (dC (.int 0))) [3]) (dNil))))))
def run__law_row_read : List D → Option A := runD 1 4 d__law_row_read
def d__law_book_read : DS := dSeq (dIf (dTst (dOp ninO (dOp idxD (dVar 0) (dC (.int 0))) (dLst (dCons (dC (.str "key")) (dCons (dC (.str "bundle")) (dNil)))))) (dRet (dTup (dCons (dC .none) (dCons (dC (.int 0)) (dNil))))) (dNext)) (dSeq (dUnp (.many [1, 2]) (dFn run__law_world_read (dCons (dVar 0) (dCons (dC (.int 1)) (dNil))))) (dSeq (dIf (dTst (dOp isntD (dVar 2) (dC .none))) (dRet (dTup (dCons (dC .none) (dCons (dVar 2) (dNil))))) (dNext)) (dSeq (dSet 3 (dOp addD (dCall lenD (dCons (dVar 1) (dNil))) (dC (.int 1)))) (dSeq (dIf (dTst (dOp neO (dSl (dVar 0) (dPart (dVar 3)) (dPart (dOp addD (dVar 3) (dC (.int 1))))) (dLst (dCons (dC (.str "rows")) (dNil))))) (dRet (dTup (dCons (dC .none) (dCons (dVar 3) (dNil))))) (dNext)) (dSeq (dSet 4 (dTup (dNil))) (dSeq (dFor (dItR1 (dCons (dCall lenD (dCons (dVar 1) (dNil))) (dNil))) (.one 5) (dSeq (dSet 6 (dC .none)) (dSeq (dIf (dTst (dOp ltD (dOp addD (dOp addD (dVar 3) (dC (.int 1))) (dVar 5)) (dCall lenD (dCons (dVar 0) (dNil))))) (dSet 6 (dFn run__law_row_read (dCons (dOp idxD (dVar 0) (dOp addD (dOp addD (dVar 3) (dC (.int 1))) (dVar 5))) (dNil)))) (dNext)) (dSeq (dIf (dOrT (dTst (dOp isD (dVar 6) (dC .none))) (dAndT (dTst (dOp neO (dVar 4) (dTup (dNil)))) (dTst (dOp neO (dCall lenD (dCons (dVar 6) (dNil))) (dCall lenD (dCons (dOp idxD (dVar 4) (dC (.int 0))) (dNil))))))) (dRet (dTup (dCons (dC .none) (dCons (dOp addD (dOp addD (dVar 3) (dC (.int 1))) (dVar 5)) (dNil))))) (dNext)) (dSet 4 (dOp addD (dVar 4) (dTup (dCons (dVar 6) (dNil))))))))) (dSeq (dIf (dTst (dOp gtD (dCall lenD (dCons (dVar 0) (dNil))) (dOp addD (dOp addD (dVar 3) (dC (.int 1))) (dCall lenD (dCons (dVar 1) (dNil)))))) (dRet (dTup (dCons (dC .none) (dCons (dOp addD (dOp addD (dVar 3) (dC (.int 1))) (dCall lenD (dCons (dVar 1) (dNil)))) (dNil))))) (dNext)) (dRet (dTup (dCons (dTup (dCons (dVar 1) (dCons (dOp idxD (dVar 0) (dC (.int 0))) (dCons (dVar 4) (dNil))))) (dCons (dC .none) (dNil))))))))))))
def run__law_book_read : List D → Option A := runD 1 7 d__law_book_read
def d__law_pairs_read : DS := dSeq (dIf (dOrT (dTst (dOp eqO (dSl (dVar 0) (dPart (dC (.int 1))) (dNo)) (dLst (dNil)))) (dTst (dOp eqO (dOp idxD (dVar 0) (dC (.int 1))) (dC (.str "-"))))) (dRet (dFn run__law_spots_read (dCons (dVar 0) (dCons (dC (.int 1)) (dCons (dVar 1) (dCons (dC (.bool false)) (dNil))))))) (dNext)) (dSeq (dSet 2 (dTup (dNil))) (dSeq (dFor (dItR2 (dCons (dC (.int 1)) (dCons (dCall lenD (dCons (dVar 0) (dNil))) (dNil)))) (.one 3) (dSeq (dSet 4 (dMeth splitD (dOp idxD (dVar 0) (dVar 3)) (dCons (dC (.str ">")) (dNil)))) (dSeq (dSet 5 (dLc (dItS (dVar 4)) (.one 6) (dYes) (dFn run__law_letter (dCons (dVar 6) (dCons (dVar 1) (dNil)))) [6])) (dSeq (dIf (dOrT (dTst (dOp neO (dCall lenD (dCons (dVar 4) (dNil))) (dC (.int 2)))) (dOrT (dTst (dOp inO (dC .none) (dVar 5))) (dAndT (dTst (dOp neO (dVar 2) (dTup (dNil)))) (dTst (dOp geD (dOp idxD (dOp idxD (dVar 2) (dNeg (dC (.int 1)))) (dC (.int 0))) (dOp idxD (dVar 5) (dC (.int 0)))))))) (dRet (dTup (dCons (dC .none) (dCons (dVar 3) (dNil))))) (dNext)) (dSet 2 (dOp addD (dVar 2) (dTup (dCons (dTup (dCons (dOp idxD (dVar 5) (dC (.int 0))) (dCons (dOp idxD (dVar 5) (dC (.int 1))) (dNil)))) (dNil))))))))) (dRet (dTup (dCons (dVar 2) (dCons (dC .none) (dNil)))))))
def run__law_pairs_read : List D → Option A := runD 2 7 d__law_pairs_read
def d__law_gate_read : DS := dSeq (dIf (dTst (dOp ninO (dOp idxD (dVar 0) (dC (.int 0))) (dLst (dCons (dC (.str "only")) (dCons (dC (.str "lift")) (dCons (dC (.str "swap")) (dCons (dC (.str "head")) (dCons (dC (.str "pad")) (dNil))))))))) (dRet (dTup (dCons (dC .none) (dCons (dC (.int 0)) (dNil))))) (dNext)) (dSeq (dIf (dTst (dOp eqO (dOp idxD (dVar 0) (dC (.int 0))) (dC (.str "swap")))) (dUnp (.many [2, 3]) (dFn run__law_pairs_read (dCons (dVar 0) (dCons (dVar 1) (dNil))))) (dUnp (.many [2, 3]) (dFn run__law_spots_read (dCons (dVar 0) (dCons (dC (.int 1)) (dCons (dVar 1) (dCons (dOp inO (dOp idxD (dVar 0) (dC (.int 0))) (dLst (dCons (dC (.str "only")) (dCons (dC (.str "lift")) (dNil))))) (dNil)))))))) (dSeq (dIf (dTst (dOp isntD (dVar 3) (dC .none))) (dRet (dTup (dCons (dC .none) (dCons (dVar 3) (dNil))))) (dNext)) (dRet (dTup (dCons (dTup (dCons (dOp idxD (dVar 0) (dC (.int 0))) (dCons (dVar 2) (dNil)))) (dCons (dC .none) (dNil)))))))
def run__law_gate_read : List D → Option A := runD 2 4 d__law_gate_read
def d__law_fill : DS := dRet (dLst (dCons (dCall maxD (dCons (dC (.int 0)) (dCons (dOp subD (dVar 0) (dOp powD (dC (.int 10)) (dC (.int 18)))) (dNil)))) (dCons (dOp modD (dCall intD (dCons (dVar 0) (dNil))) (dC (.int 2147483587))) (dCons (dC (.int 0)) (dNil)))))
def run__law_fill : List D → Option A := runD 1 1 d__law_fill
def d__law_some_world : DS := dSeq (dSet 2 (dOp addD (dC (.int 1)) (dFnJ run__law_pull (dCons (dVar 0) (dCons (dVar 1) (dNil)))))) (dSeq (dSet 3 (dFnJ run__law_pull (dCons (dVar 0) (dCons (dC (.int 6)) (dNil))))) (dSeq (dOwn 4 (dLst (dCons (dC .none) (dNil)))) (dSeq (dFor (dItR2 (dCons (dC (.int 1)) (dCons (dVar 2) (dNil)))) (.one 5) (dSeq (dSet 6 (dC (.int 0))) (dSeq (dIf (dOrT (dTst (dOp eqO (dVar 3) (dC (.int 0)))) (dTst (dOp eqO (dVar 3) (dC (.int 5))))) (dSet 6 (dFnJ run__law_pull (dCons (dVar 0) (dCons (dVar 5) (dNil))))) (dNext)) (dSeq (dIf (dTst (dOp eqO (dVar 3) (dC (.int 2)))) (dSet 6 (dOp subD (dVar 5) (dC (.int 1)))) (dNext)) (dSeq (dIf (dTst (dOp eqO (dVar 3) (dC (.int 3)))) (dSet 6 (dCall minD (dCons (dOp subD (dVar 5) (dC (.int 1))) (dCons (dOp fdivD (dVar 2) (dC (.int 2))) (dNil))))) (dNext)) (dSeq (dIf (dTst (dOp eqO (dVar 3) (dC (.int 4)))) (dSet 6 (dFnJ run__law_pull (dCons (dVar 0) (dCons (dCall minD (dCons (dVar 5) (dCons (dC (.int 4)) (dNil)))) (dNil))))) (dNext)) (dApp 4 (dVar 6)))))))) (dRet (dCall tupleD (dCons (dVar 4) (dNil)))))))
def run__law_some_world : List D → List D → Option (A × List D) := runJ 2 7 d__law_some_world
def d__law_same : DS := dRet (dAndV (dOp eqO (dVar 0) (dVar 1)) (dOp eqO (dCall reprD (dCons (dVar 0) (dNil))) (dCall reprD (dCons (dVar 1) (dNil)))))
def run__law_same : List D → Option A := runD 2 2 d__law_same
def d__law_stands_under : DS := dSeq (dOwn 1 (dOp addD (dOp mulD (dLst (dCons (dC (.int 0)) (dNil))) (dCall intD (dCons (dIsx sub_InvalidTree (dVar 0)) (dNil)))) (dOp mulD (dLst (dCons (dC (.int 1)) (dNil))) (dCall intD (dCons (dIsx sub_InvalidLocale (dVar 0)) (dNil)))))) (dSeq (dOwn 1 (dOp addD (dOp addD (dVar 1) (dOp mulD (dLst (dCons (dC (.int 2)) (dNil))) (dCall intD (dCons (dIsx sub_InvalidWishes (dVar 0)) (dNil))))) (dOp mulD (dLst (dCons (dC (.int 3)) (dNil))) (dCall intD (dCons (dIsx sub_InvalidWay (dVar 0)) (dNil)))))) (dSeq (dOwn 1 (dOp addD (dOp addD (dVar 1) (dOp mulD (dLst (dCons (dC (.int 4)) (dNil))) (dCall intD (dCons (dIsx sub_InvalidCatalog (dVar 0)) (dNil))))) (dOp mulD (dLst (dCons (dC (.int 5)) (dNil))) (dCall intD (dCons (dIsx sub_InvalidKey (dVar 0)) (dNil)))))) (dSeq (dOwn 1 (dOp addD (dOp addD (dVar 1) (dOp mulD (dLst (dCons (dC (.int 6)) (dNil))) (dCall intD (dCons (dIsx sub_InvalidText (dVar 0)) (dNil))))) (dOp mulD (dLst (dCons (dC (.int 7)) (dNil))) (dCall intD (dCons (dIsx sub_InvalidPage (dVar 0)) (dNil)))))) (dSeq (dOwn 1 (dOp addD (dOp addD (dVar 1) (dOp mulD (dLst (dCons (dC (.int 8)) (dNil))) (dCall intD (dCons (dIsx sub_InvalidDoor (dVar 0)) (dNil))))) (dOp mulD (dLst (dCons (dC (.int 9)) (dNil))) (dCall intD (dCons (dIsx sub_InvalidChoice (dVar 0)) (dNil)))))) (dSeq (dOwn 1 (dOp addD (dOp addD (dVar 1) (dOp mulD (dLst (dCons (dC (.int 10)) (dNil))) (dCall intD (dCons (dIsx sub_InvalidIndex (dVar 0)) (dNil))))) (dOp mulD (dLst (dCons (dC (.int 11)) (dNil))) (dCall intD (dCons (dIsx sub_Unlike (dVar 0)) (dNil)))))) (dSeq (dOwn 1 (dOp addD (dOp addD (dVar 1) (dOp mulD (dLst (dCons (dC (.int 12)) (dNil))) (dCall intD (dCons (dIsx sub_Needless (dVar 0)) (dNil))))) (dOp mulD (dLst (dCons (dC (.int 13)) (dNil))) (dCall intD (dCons (dIsx sub_NothingThere (dVar 0)) (dNil)))))) (dSeq (dOwn 1 (dOp addD (dOp addD (dVar 1) (dOp mulD (dLst (dCons (dC (.int 14)) (dNil))) (dCall intD (dCons (dIsx sub_NoBlock (dVar 0)) (dNil))))) (dOp mulD (dLst (dCons (dC (.int 15)) (dNil))) (dCall intD (dCons (dIsx sub_NothingToUndo (dVar 0)) (dNil)))))) (dSeq (dOwn 1 (dOp addD (dOp addD (dVar 1) (dOp mulD (dLst (dCons (dC (.int 16)) (dNil))) (dCall intD (dCons (dIsx sub_InvalidCommand (dVar 0)) (dNil))))) (dOp mulD (dLst (dCons (dC (.int 17)) (dNil))) (dCall intD (dCons (dIsx sub_Mixed (dVar 0)) (dNil)))))) (dSeq (dOwn 1 (dOp addD (dVar 1) (dOp mulD (dLst (dCons (dC (.int 18)) (dNil))) (dCall intD (dCons (dIsx sub_InvalidWords (dVar 0)) (dNil)))))) (dSeq (dIf (dOrT (dNotT (dTru (dIsx sub_WishError (dVar 0)))) (dNotT (dTru (dIsx sub_ValueError (dVar 0))))) (dApp 1 (dC (.int 99))) (dNext)) (dRet (dVar 1))))))))))))
def run__law_stands_under : List D → Option A := runD 1 2 d__law_stands_under
def d__law_placed : DS := dSeq (dSet 3 (dC .none)) (dSeq (dSet 4 (dC .none)) (dSeq (xTry (xIf (xT (dTst (dOp eqO (dVar 0) (dC (.int 0))))) (xSet 3 (xFn run_read_wishes (dCons (dVar 1) (dCons (dVar 2) (dNil))))) (xIf (xT (dTst (dOp eqO (dVar 0) (dC (.int 1))))) (xSet 3 (xFn run_read_tree (dCons (dVar 2) (dNil)))) (xIf (xT (dTst (dOp eqO (dVar 0) (dC (.int 2))))) (xSet 3 (xFn run_read_catalog (dCons (dVar 2) (dNil)))) (xSet 3 (xFn run_read_door (dCons (dVar 1) (dCons (dVar 2) (dNil)))))))) "InvalidWords" 5 (dSet 4 (dVar 5))) (dSeq (dIf (dTst (dOp isD (dVar 4) (dC .none))) (dRet (dTup (dCons (dVar 3) (dCons (dC .none) (dNil))))) (dNext)) (dSeq (dIf (dTst (dOp neO (dFn run__law_stands_under (dCons (dVar 4) (dNil))) (dLst (dCons (dC (.int 18)) (dNil))))) (dRet (dTup (dCons (dC .none) (dCons (dC (.str "another class")) (dNil))))) (dNext)) (dRet (dTup (dCons (dC .none) (dCons (dFld "place" okc_place (dVar 4)) (dNil)))))))))
def run__law_placed : List D → Option A := runD 3 6 d__law_placed
def d__law_some_text : DS := dSeq (dIf (dTst (dOp eqO (dFnJ run__law_pull (dCons (dVar 0) (dCons (dC (.int 6)) (dNil)))) (dC (.int 0)))) (dRet (dMeth joinD (dC (.str " ")) (dCons (dLc (dItR1 (dCons (dOp addD (dC (.int 1)) (dFnJ run__law_pull (dCons (dVar 0) (dCons (dC (.int 5)) (dNil))))) (dNil))) (.one 3) (dYes) (dFnJ run__law_other_word (dCons (dVar 0) (dCons (dC (.str "b")) (dNil)))) [3]) (dNil)))) (dNext)) (dSeq (dIf (dTst (dOp eqO (dVar 1) (dC (.int 0)))) (dSet 4 (dFn run__law_letters (dCons (dFnJ run__law_some_asks (dCons (dVar 0) (dCons (dVar 2) (dCons (dC (.int 9)) (dNil))))) (dNil)))) (dIf (dTst (dOp eqO (dVar 1) (dC (.int 1)))) (dSet 4 (dFn run__law_world_words (dCons (dVar 2) (dNil)))) (dIf (dTst (dOp eqO (dVar 1) (dC (.int 2)))) (dSet 4 (dFn run__law_book_words (dCons (dFnJ run__law_some_book (dCons (dVar 0) (dCons (dVar 2) (dCons (dFnJ run__law_some_mode (dCons (dVar 0) (dNil))) (dCons (dOp addD (dC (.int 1)) (dFnJ run__law_pull (dCons (dVar 0) (dCons (dC (.int 4)) (dNil))))) (dNil)))))) (dNil)))) (dSet 4 (dFn run__law_door_words (dCons (dFnJ run__law_some_door (dCons (dVar 0) (dCons (dVar 2) (dNil)))) (dNil))))))) (dSeq (dFor (dItR1 (dCons (dFnJ run__law_pull (dCons (dVar 0) (dCons (dC (.int 4)) (dNil)))) (dNil))) (.one 3) (dSet 4 (dMeth joinD (dC (.str " ")) (dCons (dFnJ run__law_other_words (dCons (dVar 0) (dCons (dMeth splitD (dVar 4) (dCons (dC (.str " ")) (dNil))) (dNil)))) (dNil))))) (dRet (dVar 4))))
def run__law_some_text : List D → List D → Option (A × List D) := runJ 3 5 d__law_some_text
def d__law_text_read : DS := dSeq (dSet 3 (dMeth splitD (dVar 2) (dCons (dC (.str " ")) (dNil)))) (dSeq (dIf (dTst (dOp eqO (dVar 0) (dC (.int 0)))) (dRet (dFn run__law_spots_read (dCons (dVar 3) (dCons (dC (.int 0)) (dCons (dCall lenD (dCons (dVar 1) (dNil))) (dCons (dC (.bool false)) (dNil))))))) (dNext)) (dSeq (dIf (dTst (dOp eqO (dVar 0) (dC (.int 1)))) (dRet (dFn run__law_world_read (dCons (dVar 3) (dCons (dC (.int 0)) (dNil))))) (dNext)) (dSeq (dIf (dTst (dOp eqO (dVar 0) (dC (.int 2)))) (dRet (dFn run__law_book_read (dCons (dVar 3) (dNil)))) (dNext)) (dRet (dFn run__law_gate_read (dCons (dVar 3) (dCons (dCall lenD (dCons (dVar 1) (dNil))) (dNil))))))))
def run__law_text_read : List D → Option A := runD 3 4 d__law_text_read
def d_law : DS := dSeq (dFor (dItS (dOp addD (dLst (dCons (dOp addD (dOp powD (dC (.int 109)) (dC (.int 30))) (dC (.int 1))) (dNil))) (dScr 0 (dNo) (dPart (dC (.int 16)))))) (.one 1) (dSeq (dOwn 2 (dFn run__law_fill (dCons (dVar 1) (dNil)))) (dSeq (dSet 3 (dFnJ run__law_some_world (dCons (dVar 2) (dCons (dC (.int 10)) (dNil))))) (dSeq (dSet 4 (dVar 3)) (dSeq (dIf (dTst (dOp eqO (dFnJ run__law_pull (dCons (dVar 2) (dCons (dC (.int 3)) (dNil)))) (dC (.int 0)))) (dSet 4 (dFnJ run__law_some_world (dCons (dVar 2) (dCons (dC (.int 10)) (dNil))))) (dNext)) (dSeq (dFor (dItR1 (dCons (dC (.int 4)) (dNil))) (.one 5) (dSeq (dSet 6 (dFnJ run__law_some_text (dCons (dVar 2) (dCons (dVar 5) (dCons (dVar 3) (dNil)))))) (dIf (dNotT (dTru (dFn run__law_same (dCons (dFn run__law_placed (dCons (dVar 5) (dCons (dVar 4) (dCons (dVar 6) (dNil))))) (dCons (dFn run__law_text_read (dCons (dVar 5) (dCons (dVar 4) (dCons (dVar 6) (dNil))))) (dNil)))))) (dRet (dC (.bool false))) (dNext)))) (dIf (dOrT (dTst (dOp neO (dFn run__law_placed (dCons (dC (.int 0)) (dCons (dVar 4) (dCons (dC (.str "")) (dNil))))) (dTup (dCons (dC .none) (dCons (dC (.int 0)) (dNil)))))) (dTst (dOp neO (dFn run__law_placed (dCons (dC (.int 3)) (dCons (dVar 4) (dCons (dC (.str "head")) (dNil))))) (dTup (dCons (dC .none) (dCons (dC (.int 1)) (dNil))))))) (dRet (dC (.bool false))) (dNext)))))))) (dSeq (dSet 7 (dScrLen 0)) (dSeq (dIf (dTst (dOp neO (dFn run__law_placed (dCons (dC (.int 0)) (dCons (dTup (dCons (dC .none) (dNil))) (dCons (dOp addD (dOp mulSD (dC (.str "a ")) (dC (.int 1999))) (dC (.str "k"))) (dNil))))) (dTup (dCons (dC .none) (dCons (dC (.int 1999)) (dNil)))))) (dRet (dC (.bool false))) (dNext)) (dRet (dAndV (dOp eqO (dFld "place" okc_place (dMk "InvalidWords" "place" (dCons (dVar 7) (dNil)))) (dVar 7)) (dOp eqO (dFld "place" okc_place (dMk "InvalidWords" "place" (dCons (dVar 7) (dNil)))) (dVar 7))))))
def run_law : List Int → Option Bool := runLaw 8 d_law
end K75
set_option Elab.async false
set_option linter.all false
set_option maxRecDepth 100000
set_option maxHeartbeats 1000000
namespace K75
open PySem L2 DD TL StrLaws
def nD (n : Nat) : D := .int (n : Int)
def dW (ws : List Nat) : D := .tuple (ws.map nD)
def dT (ps : List Nat) : D := .tuple (.none :: ps.map nD)
def TreeOk (ps : List Nat) : Prop := ps.length ≤ 9 ∧ ∀ (i p : Nat), ps[i]? = some p → p ≤ i
def WOk (ps ws : List Nat) : Prop := (∀ w ∈ ws, w < ps.length + 1) ∧ ws.length ≤ 1000
theorem im_nD (n : Nat) : im (nD n) = true := rfl
@[simp] theorem imAll_nDs (l : List Nat) : imAll (l.map nD) = true := imAll_map im_nD l
theorem r_is_integer (i : Int) : run_is_integer [.int i] = some (.dat (.bool true)) := by
  simp [run_is_integer, runD, d_is_integer, slots]
theorem at_cons (d : D) (l : List D) (i : Nat) : atI (d :: l) (1 + (i : Int)) = l[i]? := by
  rw [show (1 + (i : Int)) = ((i + 1 : Nat) : Int) by omega]
  cases h : l[i]? with
  | some x => exact atI_nat (by simpa using h)
  | none =>
    have hl := List.getElem?_eq_none_iff.mp h
    unfold atI ixN
    rw [if_pos (by omega), if_neg (by rw [List.length_cons]; omega)]; rfl
theorem at_zero (d : D) (l : List D) : atI (d :: l) 0 = some d := atI_nat (j := 0) rfl
theorem r_is_tree (ps : List Nat) (h : TreeOk ps) : run_is_tree [dT ps] = some (.dat (.bool true)) := by
  obtain ⟨h1, h2⟩ := h
  have e10 : (1 : Int) ≤ (ps.length : Int) + 1 ∧ (ps.length : Int) + 1 ≤ 10 := by omega
  have hr := fun io => rng2K_ap (io := io) (i := 1) (j := (ps.length : Int) + 1) (n := ps.length) (by omega) (by omega) (by omega)
  refine runD_rt rfl ?_ rfl
  unfold d_is_tree
  refine Rt_seq (P0 := fun sl io => sl = [.dat (dT ps), .un] ∧ io = []) ?_ ?_
  · simp [slots, dT, at_zero, e10.1, e10.2]
  rintro sl io ⟨rfl, rfl⟩
  refine Rt_seq (Nx_for (items := rngItems 1 ps.length) (c := none) (io1 := []) (fun _ sl io => ∃ s', sl = [.dat (dT ps), s'] ∧ io = []) ?_ ⟨_, rfl, rfl⟩ ?_ fun _ _ _ => rfl) ?_
  · simp [dT, hr]
  · rintro i d sl io hi ⟨s', rfl, rfl⟩
    obtain ⟨hil, rfl⟩ := rngItems_get hi
    have hp : ps[i]? = some ps[i] := List.getElem?_eq_getElem hil
    have hle := h2 i _ hp
    have h3 : (0 : Int) ≤ (ps[i] : Int) := by omega
    have h4 : (ps[i] : Int) < 1 + (i : Int) := by omega
    simp [dT, at_cons, hp, nD, r_is_integer, h3, h4]
  · rintro sl io -
    simp
theorem r_need_tree (ps : List Nat) (h : TreeOk ps) : run_need_tree [dT ps] = some (.dat .none) := by
  simp [run_need_tree, runD, d_need_tree, slots, r_is_tree ps h]
def ltr (w : Nat) : Str := ⟨#[97 + w]⟩
theorem ltr_at : ∀ w : Nat, w < 10 → atI ("abcdefghij" : Str).cps.toList (w : Int) = some ((97 + w : Nat)) := by decide +kernel
theorem abc_len : ("abcdefghij" : Str).length ≤ LIM := by decide +kernel
theorem r_letter (w : Nat) (h : w < 10) : idxD (.str "abcdefghij") (nD w) = some (.dat (.str (ltr w))) := by
  rw [nD, idxD_str, if_pos abc_len, ltr_at w h]; rfl
def lets (ws : List Nat) : Str := if ws = [] then "-" else Txt.join " " (ws.map ltr)
theorem join_small (ws : List Nat) (h : ws.length ≤ 1000) : joinLen " " (ws.map ltr) ≤ LIM := by
  have : ∀ l : List Nat, ((l.map ltr).map (·.length)).sum = l.length := by
    intro l
    induction l with
    | nil => rfl
    | cons a l ih => rw [List.map_cons, List.map_cons, List.sum_cons, ih, List.length_cons]; show 1 + l.length = _; omega
  unfold joinLen
  rw [this, List.length_map, show (" " : Str).length = 1 by decide +kernel]
  unfold LIM
  omega
theorem lets_comp (ws : List Nat) (hw : ∀ w ∈ ws, w < 10) (hl : ws.length ≤ 1000) (sl : List S) (io : IO) (k : Nat) (hk : k < sl.length) :
    lcGo none (.one k) dYes (dOp idxD (dC (.str "abcdefghij")) (dVar k)) sl (ws.map nD) 0 io = some ((ws.map ltr).map .str, io) := by
  rw [List.map_map]
  refine lcGo_mapL rfl nD (PyData.str ∘ ltr) ws 0 (by unfold LIM; omega) fun w hm => ⟨_, .dat (.str (ltr w)), rfl, ?_, ?_⟩
  · simp only [dOp_ap, dC_ap, bind_some', opK_ap, opL_ap, dVar_ap, List.getElem?_set_self hk, varK_dat, vw_dat, r_letter w (hw w hm), Option.map_some]
  · rfl
theorem occ_abc : ∀ w : Nat, w < 10 → Builtin.Str.occurrences "abcdefghij" (ltr w) 0 ("abcdefghij" : Str).length 1 = [w] := by decide +kernel
theorem ix_abc (w : Nat) (h : w < 10) : indexD "abcdefghij" [.str (ltr w)] = some (.dat (nD w)) := by
  unfold indexD
  simp only [occ_abc w h]
  rfl
theorem ltr_len (w : Nat) : (ltr w).length = 1 := rfl
theorem ltr_dash : ∀ w : Nat, w < 10 → ltr w ≠ "-" := by decide +kernel
def lD (w : Nat) : D := .str (ltr w)
theorem im_lD (n : Nat) : im (lD n) = true := rfl
theorem take_snoc {α : Type} {l : List α} {i : Nat} {a : α} (h : l[i]? = some a) : l.take (i + 1) = l.take i ++ [a] := by
  rw [List.take_add_one, h]; rfl
theorem sp_tl : tl (" " : Str) = 32 :: [] := by decide +kernel
theorem sp_k : (" " : Str).cps.all (· < 256) = true := by decide +kernel
theorem ltr_tl (w : Nat) : tl (ltr w) = [97 + w] := rfl
theorem tree_tl : 32 ∉ tl ("tree" : Str) := by decide +kernel
theorem dash_join : Txt.join " " [("-" : Str)] = "-" := by decide +kernel
theorem sum_ones (l : List Nat) : ((l.map ltr).map (·.length)).sum = l.length := by
  induction l with
  | nil => rfl
  | cons a l ih => rw [List.map_cons, List.map_cons, List.sum_cons, ih, List.length_cons]; show 1 + l.length = _; omega
theorem sp_len : (" " : Str).length = 1 := by decide +kernel
theorem lets_len (ws : List Nat) : (lets ws).length ≤ 2 * ws.length + 1 := by
  unfold lets
  split
  · rename_i h; subst h; decide +kernel
  · rw [join_eq]
    have := join_length_le " " (ws.map ltr)
    rw [sum_ones, List.length_map, sp_len] at this
    omega
def treeText (ps : List Nat) : Str := Txt.join " " ("tree" :: ps.map ltr)
theorem treeText_len (ps : List Nat) : (treeText ps).length ≤ 2 * ps.length + 5 := by
  unfold treeText
  rw [join_eq]
  have := join_length_le " " (("tree" : Str) :: ps.map ltr)
  rw [List.map_cons, List.sum_cons, sum_ones, List.length_cons, List.length_map, sp_len, show ("tree" : Str).length = 4 by decide +kernel] at this
  omega
theorem treeText_split (ps : List Nat) : Txt.split (treeText ps) " " = ("tree" : Str) :: ps.map ltr := by
  refine split_join sp_tl sp_k (by simp) fun p hp => ?_
  rcases List.mem_cons.mp hp with rfl | hp
  · exact tree_tl
  · obtain ⟨w, _, rfl⟩ := List.mem_map.mp hp
    rw [ltr_tl, List.mem_singleton]
    omega
theorem TreeOk.lt {ps : List Nat} (h : TreeOk ps) {w : Nat} (hw : w ∈ ps) : w < 9 := by
  obtain ⟨i, hi⟩ := List.getElem?_of_mem hw
  have := h.2 i w hi
  have := (List.getElem?_eq_some_iff.mp hi).1
  have := h.1
  omega
theorem WOk.lt {ps ws : List Nat} (ht : TreeOk ps) (h : WOk ps ws) {w : Nat} (hw : w ∈ ws) : w < 10 := by
  have := h.1 w hw
  have := ht.1
  omega
theorem lenT (ps : List Nat) : lenD [dT ps] = some (.dat (.int ((ps.length : Int) + 1))) := by
  simp [dT]
theorem lenT' (ps : List Nat) : lenD [dT ps] = some (.dat (nD (ps.length + 1))) := by
  rw [lenT]; rfl
theorem cut1 (d : D) (l : List D) : cutD (d :: l) (some 1) none = l := by
  unfold cutD HT.sIx
  simp
theorem letsc (ps : List Nat) (hw : ∀ w ∈ ps, w < 10) (hl : ps.length ≤ 1000) (sl : List S) (io : IO) (k : Nat) (hk : k < sl.length) : lcGo none (.one k) dYes (dOp idxD (dC (.str "abcdefghij")) (dVar k)) sl (ps.map nD) 0 io = some ((ps.map ltr).map .str, io) := lets_comp ps hw hl sl io k hk
theorem tree_small (ps : List Nat) (h : ps.length ≤ 9) : joinLen " " ("tree" :: ps.map ltr) ≤ LIM := by
  unfold joinLen
  rw [List.map_cons, List.sum_cons, sum_ones, List.length_cons, List.length_map, sp_len, show ("tree" : Str).length = 4 by decide +kernel]
  unfold LIM
  omega
theorem tree_words (ps : List Nat) (h : TreeOk ps) : Rt (dRet (dMeth joinD (dC (.str " ")) (dCons (dOp addD (dLst (dCons (dC (.str "tree")) (dNil))) (dLc (dItS (dSl (dVar 0) (dPart (dC (.int 1))) (dNo))) (.one 1) (dYes) (dOp idxD (dC (.str "abcdefghij")) (dVar 1)) [1])) (dNil))) [.dat (dT ps), .un] []) (.dat (.str (treeText ps))) fun _ => True := by
  have e1 := letsc ps (fun w hw => by have := h.lt hw; omega) (by have := h.1; omega) [.dat (dT ps), .un] [] 1 (by simp)
  have e2 : sliceD (dT ps) (some 1) none = some (.dat (.tuple (ps.map nD))) := by
    show sliceD (.tuple _) _ _ = _
    rw [sliceD_tup, cut1]
  have e3 : addD (.list [.str "tree"]) (.list ((ps.map ltr).map .str)) = some (.tmp ((("tree" : Str) :: ps.map ltr).map .str)) := by
    rw [addD_lst, if_pos (by simp; have := h.1; unfold LIM; omega)]; rfl
  have e4 : joinD " " [.list ((("tree" : Str) :: ps.map ltr).map .str)] = some (.dat (.str (treeText ps))) := by
    rw [joinD_lst, strsOf_strs, bind_some', if_pos (tree_small ps h.1)]; rfl
  have h1 : 1 ≤ LIM := by decide
  simp [-addD_lst, -sliceD_tup, -List.map_cons, -List.map_map, e1, e2, e3, e4, h1, -joinD_lst]
theorem r_world_words (ps : List Nat) (h : TreeOk ps) : run__law_world_words [dT ps] = some (.dat (.str (treeText ps))) := by
  refine runD_rt rfl ?_ rfl
  unfold d__law_world_words
  exact tree_words ps h
theorem r_letters (ws : List Nat) (hw : ∀ w ∈ ws, w < 10) (hl : ws.length ≤ 1000) : run__law_letters [dW ws] = some (.dat (.str (lets ws))) := by
  have e := fun sl => lets_comp ws hw hl sl [] 1
  refine runD_rt rfl ?_ rfl
  unfold d__law_letters
  cases ws with
  | nil => simp [slots, dW, lets, eqD, eqS, show SeqAt.shaped (.list []) = true by decide, show PyData.eqv (.list []) (.list []) = true by decide]
  | cons a l =>
    have e1 := e [.dat (dW (a :: l)), .un] (by simp)
    have e2 : eqD (.list ((a :: l).map nD)) (.list []) = some false := by
      unfold eqD
      have hL : ∀ l : List Nat, PyData.canLayAll0 (l.map nD) = true ∧ PyData.depthAll (l.map nD) = 0 := by
        intro l
        induction l with
        | nil => exact ⟨rfl, by simp only [List.map_nil, PyData.depthAll]⟩
        | cons a l ih => exact ⟨by rw [List.map_cons, PyData.canLayAll0, ih.1]; rfl, by rw [List.map_cons, PyData.depthAll, ih.2]; simp only [nD, PyData.depth]; rfl⟩
      have : SeqAt.shaped (.list ((a :: l).map nD)) = true := by
        unfold SeqAt.shaped
        rw [PyData.canLay0, (hL _).1, PyData.depth, (hL _).2]; rfl
      have h2 : SeqAt.shaped (.list []) = true := by decide
      simp only [eqS, this, h2, Bool.and_self, if_true]
      simp only [List.map_cons, PyData.eqv, PyData.eqvAll]
    refine Rt_seq (P0 := fun sl io => sl = [.dat (dW (a :: l)), .un] ∧ io = []) ?_ ?_
    · have e3 : listD [dW (a :: l)] = some (.tmp ((a :: l).map nD)) := rfl
      simp only [slots, dIf_ap, dTst_ap, dOp_ap, dCall_ap, dCons_ap, dVar_ap, List.map_cons, List.map_nil, List.length_cons, List.length_nil, List.cons_append, List.nil_append, List.getElem?_cons_zero, varK_dat, bind_some', consK_ap, dNil_ap, Option.map_some, vws_cons, vw_dat, vws_nil]
      rw [e3]
      simp only [Option.map_some, bind_some', opK_ap, dLst_ap, dNil_ap, vwIs_nil, List.length_nil, Nat.zero_le, if_true, opL_ap, vw_tmp, eqO_ap, e2, tstK_ap, ifK_ap]
      simp
    rintro sl io ⟨rfl, rfl⟩
    have e4 : joinD " " [.list (((a :: l).map ltr).map .str)] = some (.dat (.str (lets (a :: l)))) := by
      rw [joinD_lst, strsOf_strs, bind_some', if_pos (join_small _ hl)]; rfl
    have e5 : itemsOf [] (.dat (dW (a :: l))) = some ((a :: l).map nD, none) := rfl
    simp [e5, e1, e4, -joinD_lst, -List.map_cons, -List.map_map]
theorem r_same {d : D} (h : Small d) : run__law_same [d, d] = some (.dat (.bool true)) := by
  refine runD_rt rfl ?_ rfl
  unfold d__law_same
  simp [slots, h.eq, h.repr]
theorem joinL_mem {S : List Nat} {x : Nat} : ∀ {ps : List (List Nat)}, x ∈ joinL S ps → x ∈ S ∨ ∃ p ∈ ps, x ∈ p
  | [], h => by cases h
  | [p], h => .inr ⟨p, List.mem_singleton.mpr rfl, h⟩
  | p :: q :: r, h => by
    have h' : x ∈ p ++ (S ++ joinL S (q :: r)) := h
    rcases List.mem_append.mp h' with h | h
    · exact .inr ⟨p, List.mem_cons_self, h⟩
    rcases List.mem_append.mp h with h | h
    · exact .inl h
    rcases joinL_mem h with h | ⟨y, hy, h⟩
    · exact .inl h
    · exact .inr ⟨y, List.mem_cons_of_mem _ hy, h⟩
theorem lets_small (ws : List Nat) (hw : ∀ w ∈ ws, w < 10) (hl : ws.length ≤ 1000) : Small (.str (lets ws)) := by
  refine Small.str ?_ (by have := lets_len ws; omega)
  unfold lets
  split
  · decide +kernel
  · rw [join_eq, ← Array.all_toList]
    show (tl (Str.join " " (ws.map ltr))).all _ = true
    rw [tl_join, List.all_eq_true]
    intro x hx
    rcases joinL_mem hx with h | ⟨p, hp, h⟩
    · rw [sp_tl, List.mem_singleton] at h
      subst h; decide
    · obtain ⟨y, hy, rfl⟩ := List.mem_map.mp hp
      obtain ⟨w, hw', rfl⟩ := List.mem_map.mp hy
      rw [ltr_tl, List.mem_singleton] at h
      have := hw w hw'
      subst h
      exact decide_eq_true (by omega)
theorem treeText_small (ps : List Nat) (h : TreeOk ps) : Small (.str (treeText ps)) := by
  refine Small.str ?_ (by have := treeText_len ps; have := h.1; omega)
  unfold treeText
  rw [join_eq, ← Array.all_toList]
  show (tl (Str.join " " (("tree" : Str) :: ps.map ltr))).all _ = true
  rw [tl_join, List.all_eq_true]
  intro x hx
  rcases joinL_mem hx with h' | ⟨p, hp, h'⟩
  · rw [sp_tl, List.mem_singleton] at h'
    subst h'; decide
  · obtain ⟨y, hy, rfl⟩ := List.mem_map.mp hp
    rcases List.mem_cons.mp hy with rfl | hy
    · have e : (tl ("tree" : Str)).all (fun c => decide (c < 0x110000)) = true := by decide +kernel
      exact List.all_eq_true.mp e x h'
    · obtain ⟨w, hw', rfl⟩ := List.mem_map.mp hy
      rw [ltr_tl, List.mem_singleton] at h'
      have := h.lt hw'
      subst h'
      exact decide_eq_true (by omega)
theorem nD_each {l : List Nat} (h : ∀ w ∈ l, w < 10) : Each 0 21 (l.map nD) := fun d hd => by
  obtain ⟨w, hw, rfl⟩ := List.mem_map.mp hd
  have := h w hw
  have h6 : ((w : Int)).natAbs < 10 ^ 6 := by omega
  exact ⟨(Small.int h6).lf, by unfold nD; simp only [PyData.depth]; omega, int_wt h6 21 (by omega)⟩
theorem dW_small (ws : List Nat) (hw : ∀ w ∈ ws, w < 10) (hl : ws.length ≤ 100) : Small (dW ws) :=
  Small.tuple (nD_each hw) (by omega) (by rw [List.length_map]; omega)
theorem dT_small (ps : List Nat) (h : TreeOk ps) : Small (dT ps) := by
  refine Small.tuple (n := 0) (w := 21) (fun d hd => ?_) (by omega) (by rw [List.length_cons, List.length_map]; have := h.1; omega)
  rcases List.mem_cons.mp hd with rfl | hd
  · exact ⟨rfl, by simp only [PyData.depth]; omega, by simp only [PyData.weight]; omega⟩
  · exact nD_each (fun w hw => by have := h.lt hw; omega) d hd
def jar (a b c : Int) : List D := [.int a, .int b, .int c]
def JarOk (n : Nat) (js : List D) : Prop := ∃ a b c : Int, js = jar a b c ∧ 0 ≤ a ∧ 0 ≤ b ∧ b < 2147483587 ∧ 0 ≤ c ∧ c ≤ (n : Int)
theorem r_fill (cell : Int) : ∃ js, run__law_fill [.int cell] = some (.tmp js) ∧ JarOk 0 js := by
  refine ⟨jar (if cell - 10 ^ 18 > 0 then cell - 10 ^ 18 else 0) (cell % 2147483587) 0, ?_, _, _, _, rfl, ?_, by omega, by omega, by omega, by omega⟩
  · refine runD_tm rfl ?_ rfl
    unfold d__law_fill
    have e1 : powD (.int 10) (.int 18) = some (.dat (.int (10 ^ 18))) := by rw [powD_int, if_pos (by decide)]; rfl
    have e2 : 3 ≤ LIM := by decide
    simp [slots, e1, -powD_int, mod_p (show (0 : Int) < 2147483587 by decide), -modD_int, e2, jar]
  · split <;> omega
theorem r_pull {n : Nat} {js : List D} (h : JarOk n js) (hn : n ≤ 1000000) (size : Int) (h1 : 1 ≤ size) (h2 : size ≤ 1000000) :
    ∃ (d : Int) (js' : List D), run__law_pull js [.int size] = some (.dat (.int d), js') ∧ 0 ≤ d ∧ d < size ∧ JarOk (n + 1) js' := by
  obtain ⟨a, b, c, rfl, ha, hb, hb', hc, hc'⟩ := h
  by_cases hp : 0 < a
  · refine ⟨a % size, jar (a / size) b c, ?_, Int.emod_nonneg _ (by omega), Int.emod_lt_of_pos _ (by omega), _, _, _, rfl, Int.ediv_nonneg ha (by omega), hb, hb', hc, by omega⟩
    refine runJ_rt rfl ?_ rfl
    unfold d__law_pull
    refine Rt_seq1 ?_
    have e1 := mod_p (i := a) (j := size) (by omega)
    have e2 := fdiv_p (i := a) (j := size) (by omega) (by omega)
    simp [slots, jar, at3_0, hp, -modD_int, e1, -fdivD_int, e2, ix3_0]
  · have e0 : a = 0 := by omega
    subst e0
    suffices hs : ∃ s : Int, Rt (d__law_pull (slots 4 (.ref 0 :: ([.int size] : List D).map .dat)) [jar 0 b c]) (.dat (.int (s % size))) fun io => io[0]? = some (jar 0 b (c + 1)) by
      obtain ⟨s, hs⟩ := hs
      exact ⟨s % size, jar 0 b (c + 1), runJ_rt rfl hs rfl, Int.emod_nonneg _ (by omega), Int.emod_lt_of_pos _ (by omega), _, _, _, rfl, by omega, hb, hb', by omega, by omega⟩
    generalize hc1 : c + 1 = c1
    have p1 : 0 ≤ c1 := by omega
    have p2 : c1 < 4294967296 := by omega
    let s1 : Int := (b + 104729 * c1 * c1 + 31 * c1) % 2147483629
    have hs1 : 0 ≤ s1 ∧ s1 < 2147483629 := ⟨Int.emod_nonneg _ (by omega), Int.emod_lt_of_pos _ (by omega)⟩
    let s2 : Int := (s1 * s1 + 48271 * c1 + 5) % 2147483563
    have hs2 : 0 ≤ s2 ∧ s2 < 2147483563 := ⟨Int.emod_nonneg _ (by omega), Int.emod_lt_of_pos _ (by omega)⟩
    let s3 : Int := (s2 * s2) % 2147483399
    have hs3 : 0 ≤ s3 ∧ s3 < 2147483399 := ⟨Int.emod_nonneg _ (by omega), Int.emod_lt_of_pos _ (by omega)⟩
    refine ⟨s3 / 16, ?_⟩
    unfold d__law_pull
    refine Rt_seq (P0 := fun sl io => sl = [.ref 0, .dat (.int size), .un, .un] ∧ io = [jar 0 b c]) ?_ ?_
    · simp [slots, jar, at3_0]
    rintro sl io ⟨rfl, rfl⟩
    refine Rt_seq (P0 := fun sl io => sl = [.ref 0, .dat (.int size), .un, .un] ∧ io = [jar 0 b c1]) ?_ ?_
    · simp [jar, at3_2, ix3_2, hc1]
    rintro sl io ⟨rfl, rfl⟩
    refine Rt_seq (P0 := fun sl io => sl = [.ref 0, .dat (.int size), .un, .dat (.int s1)] ∧ io = [jar 0 b c1]) ?_ ?_
    · have e1 := mul_r (i := 104729) p1 p2
      have e2 := mul_r (i := 104729 * c1) p1 p2
      have e3 := mul_r (i := 31) p1 p2
      have e4 := mod_p (i := b + 104729 * c1 * c1 + 31 * c1) (j := 2147483629) (by decide)
      simp [jar, at3_1, at3_2, -mulD_int, -modD_int, e1, e2, e3, e4, s1]
    rintro sl io ⟨rfl, rfl⟩
    refine Rt_seq (P0 := fun sl io => sl = [.ref 0, .dat (.int size), .un, .dat (.int s2)] ∧ io = [jar 0 b c1]) ?_ ?_
    · have e1 := mul_r (i := s1) hs1.1 (by omega)
      have e2 := mul_r (i := 48271) p1 p2
      have e4 := mod_p (i := s1 * s1 + 48271 * c1 + 5) (j := 2147483563) (by decide)
      simp [jar, at3_1, at3_2, -mulD_int, -modD_int, e1, e2, e4, s2]
    rintro sl io ⟨rfl, rfl⟩
    refine Rt_seq (P0 := fun sl io => sl = [.ref 0, .dat (.int size), .un, .dat (.int s3)] ∧ io = [jar 0 b c1]) ?_ ?_
    · have e1 := mul_r (i := s2) hs2.1 (by omega)
      have e4 := mod_p (i := s2 * s2) (j := 2147483399) (by decide)
      simp [jar, at3_1, at3_2, -mulD_int, -modD_int, e1, e4, s3]
    rintro sl io ⟨rfl, rfl⟩
    have e1 := fdiv_p (i := s3) (j := 16) (by decide) (by decide)
    have e2 := mod_p (i := s3 / 16) (j := size) (by omega)
    simp [-fdivD_int, -modD_int, e1, e2]
theorem JarOk.mono {n m : Nat} {js : List D} (h : JarOk n js) (hm : n ≤ m) : JarOk m js := by
  obtain ⟨a, b, c, e, h1, h2, h3, h4, h5⟩ := h
  exact ⟨a, b, c, e, h1, h2, h3, h4, by omega⟩
theorem pull_ex {sl : List S} {js : List D} {rest : IO} {X : DE} {n : Nat} {size : Int} (h0 : sl[0]? = some (.ref 0)) (hx : X sl (js :: rest) = some (.dat (.int size), js :: rest)) (hj : JarOk n js) (hn : n ≤ 1000000) (h1 : 1 ≤ size) (h2 : size ≤ 1000000) :
    ∃ (d : Int) (js' : List D), dFnJ run__law_pull (dCons (dVar 0) (dCons X dNil)) sl (js :: rest) = some (.dat (.int d), js' :: rest) ∧ 0 ≤ d ∧ d < size ∧ JarOk (n + 1) js' := by
  obtain ⟨d, js', e, h3, h4, h5⟩ := r_pull hj hn size h1 h2
  refine ⟨d, js', ?_, h3, h4, h5⟩
  simp [h0, hx, e]
def Up (ps : List Nat) : Prop := ∀ (i p : Nat), ps[i]? = some p → p ≤ i
theorem Up.snoc {ps : List Nat} (h : Up ps) {p : Nat} (hp : p ≤ ps.length) : Up (ps ++ [p]) := by
  intro i q e
  rw [List.getElem?_append] at e
  split at e
  · exact h i q e
  · rename_i hi
    have : i - ps.length = 0 := by
      have := (List.getElem?_eq_some_iff.mp e).1
      rw [List.length_singleton] at this
      omega
    rw [this] at e
    cases e
    omega
theorem r_some_world {n : Nat} {js : List D} (h : JarOk n js) (hn : n ≤ 1000) : ∃ ps js', run__law_some_world js [.int 10] = some (.dat (dT ps), js') ∧ TreeOk ps ∧ JarOk (n + 20) js' := by
  suffices hs : ∃ ps js', Rt (d__law_some_world (slots 7 (.ref 0 :: ([.int 10] : List D).map .dat)) [js]) (.dat (dT ps)) (fun io => io[0]? = some js') ∧ TreeOk ps ∧ JarOk (n + 20) js' by
    obtain ⟨ps, js', h1, h2, h3⟩ := hs
    exact ⟨ps, js', runJ_rt rfl h1 (by show imAll _ = true; simp), h2, h3⟩
  obtain ⟨d1, js1, e1, h1, h1', j1⟩ := pull_ex (sl := [.ref 0, .dat (.int 10), .un, .un, .un, .un, .un]) (X := dVar 1) (rest := []) rfl rfl h (by omega) (by decide) (by decide)
  obtain ⟨d2, js2, e2, h2, h2', j2⟩ := pull_ex (sl := [.ref 0, .dat (.int 10), .dat (.int (1 + d1)), .un, .un, .un, .un]) (X := dC (.int 6)) (rest := []) rfl rfl j1 (by omega) (by decide) (by decide)
  obtain ⟨m, hm⟩ : ∃ m : Nat, d1 = (m : Int) := ⟨d1.toNat, by omega⟩
  subst hm
  have hr := fun io => rng2K_ap (io := io) (i := 1) (j := 1 + (m : Int)) (n := m) (by omega) (by omega) (by omega)
  have key : Nx ((dFor (dItR2 (dCons (dC (.int 1)) (dCons (dVar 2) (dNil)))) (.one 5) (dSeq (dSet 6 (dC (.int 0))) (dSeq (dIf (dOrT (dTst (dOp eqO (dVar 3) (dC (.int 0)))) (dTst (dOp eqO (dVar 3) (dC (.int 5))))) (dSet 6 (dFnJ run__law_pull (dCons (dVar 0) (dCons (dVar 5) (dNil))))) (dNext)) (dSeq (dIf (dTst (dOp eqO (dVar 3) (dC (.int 2)))) (dSet 6 (dOp subD (dVar 5) (dC (.int 1)))) (dNext)) (dSeq (dIf (dTst (dOp eqO (dVar 3) (dC (.int 3)))) (dSet 6 (dCall minD (dCons (dOp subD (dVar 5) (dC (.int 1))) (dCons (dOp fdivD (dVar 2) (dC (.int 2))) (dNil))))) (dNext)) (dSeq (dIf (dTst (dOp eqO (dVar 3) (dC (.int 4)))) (dSet 6 (dFnJ run__law_pull (dCons (dVar 0) (dCons (dCall minD (dCons (dVar 5) (dCons (dC (.int 4)) (dNil)))) (dNil))))) (dNext)) (dApp 4 (dVar 6))))))))
      [.ref 0, .dat (.int 10), .dat (.int (1 + m)), .dat (.int d2), .ref 1, .un, .un] [js2, [.none]])
      (fun sl io => ∃ s5 s6 ps js', sl = [.ref 0, .dat (.int 10), .dat (.int (1 + m)), .dat (.int d2), .ref 1, s5, s6] ∧ io = [js', .none :: ps.map nD] ∧ ps.length = m ∧ Up ps ∧ JarOk (n + 2 + 2 * m) js') := by
    have hlen : (rngItems 1 m).length = m := by unfold rngItems; simp
    have := Nx_for (items := rngItems 1 m) (c := none) (io1 := [js2, [.none]]) (it := dItR2 (dCons (dC (.int 1)) (dCons (dVar 2) (dNil)))) (tg := .one 5) (sl := [.ref 0, .dat (.int 10), .dat (.int (1 + m)), .dat (.int d2), .ref 1, .un, .un]) (io := [js2, [.none]])
      (body := (dSeq (dSet 6 (dC (.int 0))) (dSeq (dIf (dOrT (dTst (dOp eqO (dVar 3) (dC (.int 0)))) (dTst (dOp eqO (dVar 3) (dC (.int 5))))) (dSet 6 (dFnJ run__law_pull (dCons (dVar 0) (dCons (dVar 5) (dNil))))) (dNext)) (dSeq (dIf (dTst (dOp eqO (dVar 3) (dC (.int 2)))) (dSet 6 (dOp subD (dVar 5) (dC (.int 1)))) (dNext)) (dSeq (dIf (dTst (dOp eqO (dVar 3) (dC (.int 3)))) (dSet 6 (dCall minD (dCons (dOp subD (dVar 5) (dC (.int 1))) (dCons (dOp fdivD (dVar 2) (dC (.int 2))) (dNil))))) (dNext)) (dSeq (dIf (dTst (dOp eqO (dVar 3) (dC (.int 4)))) (dSet 6 (dFnJ run__law_pull (dCons (dVar 0) (dCons (dCall minD (dCons (dVar 5) (dCons (dC (.int 4)) (dNil)))) (dNil))))) (dNext)) (dApp 4 (dVar 6))))))))
      (fun i sl io => ∃ s5 s6 ps js', sl = [.ref 0, .dat (.int 10), .dat (.int (1 + m)), .dat (.int d2), .ref 1, s5, s6] ∧ io = [js', .none :: ps.map nD] ∧ ps.length = i ∧ Up ps ∧ JarOk (n + 2 + 2 * i) js')
      (by simp [hr]) ⟨_, _, [], _, rfl, rfl, rfl, fun i p e => by simp at e, j2⟩ ?_ (fun _ _ _ => rfl)
    · rw [hlen] at this; exact this
    rintro i d sl io hi ⟨s5, s6, ps, js', rfl, rfl, hpl, hup, hj⟩
    obtain ⟨hil, rfl⟩ := rngItems_get hi
    refine ⟨rfl, ?_⟩
    simp only [tgGo_one, bind_some']
    let St (k : Nat) : List S → IO → Prop := fun sl io => ∃ (up : Nat) (js' : List D), up ≤ i ∧ JarOk (n + 2 + 2 * i + k) js' ∧ sl = [.ref 0, .dat (.int 10), .dat (.int (1 + m)), .dat (.int d2), .ref 1, .dat (.int (1 + (i : Nat))), .dat (nD up)] ∧ io = [js', .none :: ps.map nD]
    refine Nx_seq (P0 := St 0) ?_ ?_
    · simp [-Int.zero_add]
      exact ⟨0, js', by omega, hj, by simp [nD], rfl⟩
    rintro sl io ⟨up, js3, hu, hj3, rfl, rfl⟩
    refine Nx_seq (P0 := St 1) ?_ ?_
    · by_cases hc : d2 = 0 ∨ d2 = 5
      · obtain ⟨d, js4, e, h3, h4, h5⟩ := pull_ex (sl := [.ref 0, .dat (.int 10), .dat (.int (1 + m)), .dat (.int d2), .ref 1, .dat (.int (1 + (i : Nat))), .dat (nD up)]) (X := dVar 5) (rest := [.none :: ps.map nD]) rfl rfl hj3 (by omega) (by omega) (by omega)
        have hc' : dIf (dOrT (dTst (dOp eqO (dVar 3) (dC (.int 0)))) (dTst (dOp eqO (dVar 3) (dC (.int 5))))) (dSet 6 (dFnJ run__law_pull (dCons (dVar 0) (dCons (dVar 5) (dNil))))) (dNext) [.ref 0, .dat (.int 10), .dat (.int (1 + m)), .dat (.int d2), .ref 1, .dat (.int (1 + (i : Nat))), .dat (nD up)] [js3, .none :: ps.map nD] = dSet 6 (dFnJ run__law_pull (dCons (dVar 0) (dCons (dVar 5) (dNil)))) [.ref 0, .dat (.int 10), .dat (.int (1 + m)), .dat (.int d2), .ref 1, .dat (.int (1 + (i : Nat))), .dat (nD up)] [js3, .none :: ps.map nD] := by
          rcases hc with rfl | rfl <;> simp [-dSet_ap]
        rw [hc', dSet_ap, e]
        simp [-Int.zero_add]
        exact ⟨d.toNat, js4, by omega, h5, by simp [nD]; omega, rfl⟩
      · have hc1 : d2 ≠ 0 := fun z => hc (.inl z)
        have hc2 : d2 ≠ 5 := fun z => hc (.inr z)
        simp [hc1, hc2]
        exact ⟨up, js3, hu, hj3.mono (by omega), rfl, rfl⟩
    rintro sl io ⟨up, js3, hu, hj3, rfl, rfl⟩
    refine Nx_seq (P0 := St 1) ?_ ?_
    · by_cases hc : d2 = 2
      · subst hc
        simp [-Int.zero_add]
        exact ⟨i, js3, by omega, hj3, by simp [nD]; omega, rfl⟩
      · simp [hc]
        exact ⟨up, js3, hu, hj3, rfl, rfl⟩
    rintro sl io ⟨up, js3, hu, hj3, rfl, rfl⟩
    refine Nx_seq (P0 := St 1) ?_ ?_
    · by_cases hc : d2 = 3
      · subst hc
        have e3 := fdiv_p (i := 1 + (m : Int)) (j := 2) (by decide) (by decide)
        simp [-fdivD_int, e3, -Int.zero_add]
        refine ⟨(if (1 + (m : Int)) / 2 < 1 + (i : Int) - 1 then (1 + (m : Int)) / 2 else 1 + (i : Int) - 1).toNat, js3, by split <;> omega, hj3, ?_, rfl⟩
        simp [nD]
        split <;> omega
      · simp [hc]
        exact ⟨up, js3, hu, hj3, rfl, rfl⟩
    rintro sl io ⟨up, js3, hu, hj3, rfl, rfl⟩
    refine Nx_seq (P0 := St 2) ?_ ?_
    · by_cases hc : d2 = 4
      · subst hc
        obtain ⟨d, js4, e, h3, h4, h5⟩ := pull_ex (sl := [.ref 0, .dat (.int 10), .dat (.int (1 + m)), .dat (.int 4), .ref 1, .dat (.int (1 + (i : Nat))), .dat (nD up)]) (X := dCall minD (dCons (dVar 5) (dCons (dC (.int 4)) (dNil)))) (rest := [.none :: ps.map nD]) (size := if (4 : Int) < 1 + (i : Nat) then 4 else 1 + (i : Nat)) rfl (by simp) hj3 (by omega) (by split <;> omega) (by split <;> omega)
        have hc' : dIf (dTst (dOp eqO (dVar 3) (dC (.int 4)))) (dSet 6 (dFnJ run__law_pull (dCons (dVar 0) (dCons (dCall minD (dCons (dVar 5) (dCons (dC (.int 4)) (dNil)))) (dNil))))) (dNext) [.ref 0, .dat (.int 10), .dat (.int (1 + m)), .dat (.int 4), .ref 1, .dat (.int (1 + (i : Nat))), .dat (nD up)] [js3, .none :: ps.map nD] = dSet 6 (dFnJ run__law_pull (dCons (dVar 0) (dCons (dCall minD (dCons (dVar 5) (dCons (dC (.int 4)) (dNil)))) (dNil)))) [.ref 0, .dat (.int 10), .dat (.int (1 + m)), .dat (.int 4), .ref 1, .dat (.int (1 + (i : Nat))), .dat (nD up)] [js3, .none :: ps.map nD] := by
          simp [-dSet_ap]
        rw [hc', dSet_ap, e]
        simp [-Int.zero_add]
        refine ⟨d.toNat, js4, ?_, h5, by simp [nD]; omega, rfl⟩
        split at h4 <;> omega
      · simp [hc]
        exact ⟨up, js3, hu, hj3.mono (by omega), rfl, rfl⟩
    rintro sl io ⟨up, js3, hu, hj3, rfl, rfl⟩
    have e3 : (.none :: ps.map nD : List D).length < LIM := by rw [List.length_cons, List.length_map]; unfold LIM; omega
    simp only [dApp_ap, appK_ap, dVar_ap, varK_dat, List.getElem?_cons_succ, List.getElem?_cons_zero, bind_some', appL_ap, im_nD, e3, true_and, if_true, Nx_nx]
    exact ⟨_, _, ps ++ [up], js3, rfl, by simp, by simp [hpl], hup.snoc (by omega), hj3.mono (by omega)⟩
  obtain ⟨sl', io', ek, s5, s6, ps, js', rfl, rfl, hpl, hup, hj⟩ := key
  refine ⟨ps, js', ?_, ⟨by omega, hup⟩, hj.mono (by omega)⟩
  unfold d__law_some_world
  refine Rt_seq (P0 := fun sl io => sl = [.ref 0, .dat (.int 10), .dat (.int (1 + m)), .un, .un, .un, .un] ∧ io = [js1]) ?_ ?_
  · rw [dSet_ap, dOp_ap, dC_ap, bind_some', opK_ap]
    have : slots 7 (.ref 0 :: ([.int 10] : List D).map .dat) = [.ref 0, .dat (.int 10), .un, .un, .un, .un, .un] := rfl
    rw [this, e1]
    simp
  rintro sl io ⟨rfl, rfl⟩
  refine Rt_seq (P0 := fun sl io => sl = [.ref 0, .dat (.int 10), .dat (.int (1 + m)), .dat (.int d2), .un, .un, .un] ∧ io = [js2]) ?_ ?_
  · rw [dSet_ap, e2]
    simp
  rintro sl io ⟨rfl, rfl⟩
  refine Rt_seq (P0 := fun sl io => sl = [.ref 0, .dat (.int 10), .dat (.int (1 + m)), .dat (.int d2), .ref 1, .un, .un] ∧ io = [js2, [.none]]) ?_ ?_
  · simp [show 1 ≤ LIM by decide]
  rintro sl io ⟨rfl, rfl⟩
  rw [seq_nx ek]
  simp [dT]
theorem at_last (l : List D) (x : D) : atI (l ++ [x]) (-1) = some x := by
  unfold atI ixN
  rw [if_neg (by omega), List.length_append, List.length_singleton, if_pos (by omega)]
  show (l ++ [x])[(-1 + ((l.length + 1 : Nat) : Int)).toNat]? = _
  rw [show (-1 + ((l.length + 1 : Nat) : Int)).toNat = l.length by omega]
  simp
theorem world0 (ps : List Nat) : atI (.none :: ps.map nD) (0 : Nat) = some .none := at_zero _ _
theorem worldS (ps : List Nat) (k : Nat) (h : k < ps.length) : atI (.none :: ps.map nD) ((k + 1 : Nat) : Int) = some (nD ps[k]) := by
  rw [show ((k + 1 : Nat) : Int) = 1 + (k : Int) by omega, at_cons, List.getElem?_map, List.getElem?_eq_getElem h]; rfl
def upT : DT := dAndT (dTst (dOp isntD (dOp idxD (dVar 0) (dOp idxD (dVar 2) (dNeg (dC (.int 1))))) (dC .none))) (dTst (dOp gtD (dOp idxD (dVar 0) (dOp idxD (dVar 2) (dNeg (dC (.int 1))))) (dC (.int 0))))
def upB : DS := dApp 2 (dOp idxD (dVar 0) (dOp idxD (dVar 2) (dNeg (dC (.int 1)))))
theorem upT_ev {ps : List Nat} {t : S} {l : List D} {w : Nat} {d : D} {b : Bool} (e1 : atI l (-1) = some (nD w)) (e3 : idxD (dT ps) (nD w) = some (.dat d)) (hd : (d = .none ∧ b = false) ∨ ∃ n : Nat, d = nD n ∧ b = decide (0 < n)) :
    upT [.dat (dT ps), t, .ref 0] [l] = some (b, [l]) := by
  unfold upT
  simp only [dAndT_ap, dTst_ap, dOp_ap, dVar_ap, List.getElem?_cons_zero, List.getElem?_cons_succ, varK_dat, varK_ref, bind_some', opK_ap, dNeg_ap, dC_ap, negK_ap, opL_ap, vw_ref, vw_dat, Option.map_some, idxD_lst, e1, e3]
  rcases hd with ⟨rfl, rfl⟩ | ⟨n, rfl, rfl⟩
  · simp only [bind_some', opL_ap, vw_dat, e3, Option.map_some, opK_ap, dC_ap, isntD_none, isNonD_none, tstK_ap, andK_ap]
    rfl
  · simp only [bind_some', opL_ap, vw_dat, e3, Option.map_some, opK_ap, dC_ap, isntD_none, isNonD_int, nD, tstK_ap, andK_ap, Bool.not_false, if_true, dTst_ap, dOp_ap, dVar_ap, List.getElem?_cons_zero, List.getElem?_cons_succ, varK_dat, varK_ref, dNeg_ap, negK_ap, vw_ref, idxD_lst, e1]
    have e3' : idxD (dT ps) (.int (w : Int)) = some (.dat (.int (n : Int))) := e3
    simp only [bind_some', opL_ap, vw_dat, e3', Option.map_some, opK_ap, dC_ap, gtD_int, tstK_ap]
    congr 2
    exact decide_eq_decide.mpr (by omega)
theorem upB_ev {ps : List Nat} {t : S} {l : List D} {w n : Nat} (e1 : atI l (-1) = some (nD w)) (e3 : idxD (dT ps) (nD w) = some (.dat (nD n))) (hl : l.length < LIM) :
    upB [.dat (dT ps), t, .ref 0] [l] = some (.nx [.dat (dT ps), t, .ref 0] [l ++ [nD n]]) := by
  unfold upB
  simp only [dApp_ap, dOp_ap, dVar_ap, List.getElem?_cons_zero, List.getElem?_cons_succ, varK_dat, varK_ref, bind_some', opK_ap, dNeg_ap, dC_ap, negK_ap, opL_ap, vw_ref, vw_dat, Option.map_some, idxD_lst, e1, appK_ap, e3, appL_ap, im_nD, hl, true_and, if_true, List.set_cons_zero]
theorem up_loop (ps : List Nat) (hp : TreeOk ps) (top : Nat) : ∀ (fuel w : Nat) (us : List Nat), w < fuel → w ≤ ps.length → w ≤ top → (∀ u ∈ us, u ≤ top) → us.length + w ≤ 100 →
    ∃ us', whGo upT upB fuel [.dat (dT ps), .dat (nD top), .ref 0] [(us ++ [w]).map nD] = some (.nx [.dat (dT ps), .dat (nD top), .ref 0] [us'.map nD]) ∧ us' ≠ [] ∧ us'.length ≤ 101 ∧ ∀ u ∈ us', u ≤ top
  | 0, w, us, h, _, _, _, _ => absurd h (Nat.not_lt_zero _)
  | fuel + 1, w, us, h, hw, ht, hu, hl => by
    have e1 : atI ((us ++ [w]).map nD) (-1) = some (nD w) := by rw [List.map_append]; exact at_last _ _
    have stop : upT [.dat (dT ps), .dat (nD top), .ref 0] [(us ++ [w]).map nD] = some (false, [(us ++ [w]).map nD]) → ∃ us', whGo upT upB (fuel + 1) [.dat (dT ps), .dat (nD top), .ref 0] [(us ++ [w]).map nD] = some (.nx [.dat (dT ps), .dat (nD top), .ref 0] [us'.map nD]) ∧ us' ≠ [] ∧ us'.length ≤ 101 ∧ ∀ u ∈ us', u ≤ top := fun e => by
      refine ⟨us ++ [w], ?_, by simp, by rw [List.length_append, List.length_singleton]; omega, fun u hm => ?_⟩
      · unfold whGo
        rw [e]
        simp
      · rcases List.mem_append.mp hm with h | h
        · exact hu u h
        · rw [List.mem_singleton] at h; omega
    cases w with
    | zero => exact stop (upT_ev e1 (by show (atI _ _).map _ = _; rw [world0]; rfl) (.inl ⟨rfl, rfl⟩))
    | succ k =>
      have hk : k < ps.length := by omega
      have e2 := worldS ps k hk
      have hle := hp.2 k _ (List.getElem?_eq_getElem hk)
      have e3 : idxD (dT ps) (nD (k + 1)) = some (.dat (nD ps[k])) := by show (atI _ _).map _ = _; rw [e2]; rfl
      by_cases h0 : ps[k] = 0
      · exact stop (upT_ev e1 e3 (.inr ⟨ps[k], rfl, by rw [h0]; rfl⟩))
      · have et := upT_ev (t := .dat (nD top)) (b := true) e1 e3 (.inr ⟨ps[k], rfl, (decide_eq_true (by omega)).symm⟩)
        have eb := upB_ev (t := .dat (nD top)) e1 e3 (by rw [List.length_map, List.length_append, List.length_singleton]; unfold LIM; omega)
        obtain ⟨us', e, r⟩ := up_loop ps hp top fuel ps[k] (us ++ [k + 1]) (by omega) (by omega) (by omega) (fun u hm => by
          rcases List.mem_append.mp hm with h | h
          · exact hu u h
          · rw [List.mem_singleton] at h; omega) (by rw [List.length_append, List.length_singleton]; omega)
        refine ⟨us', ?_, r⟩
        unfold whGo
        rw [et]
        simp only [bind_some', if_true, eb]
        rw [List.map_append (l₁ := us ++ [k + 1])] at e
        exact e
theorem r_up (ps : List Nat) (hp : TreeOk ps) (w : Nat) (h : w ≤ ps.length) : ∃ us : List Nat, run__law_up [dT ps, nD w] = some (.tmp (us.map nD)) ∧ us ≠ [] ∧ us.length ≤ 101 ∧ ∀ u ∈ us, u ≤ w := by
  obtain ⟨us, e, h1, h2, h3⟩ := up_loop ps hp w FUEL w [] (by have := hp.1; unfold FUEL; omega) h (Nat.le_refl _) (fun u hu => by cases hu) (by have := hp.1; simp; omega)
  refine ⟨us, runD_rf (k := 0) rfl ?_, h1, h2, h3⟩
  unfold d__law_up
  refine Rt_seq (P0 := fun sl io => sl = [.dat (dT ps), .dat (nD w), .ref 0] ∧ io = [[nD w]]) ?_ ?_
  · simp [slots, show 1 ≤ LIM by decide, im_nD]
  rintro sl io ⟨rfl, rfl⟩
  have e' : whGo (dAndT (dTst (dOp isntD (dOp idxD (dVar 0) (dOp idxD (dVar 2) (dNeg (dC (.int 1))))) (dC .none))) (dTst (dOp gtD (dOp idxD (dVar 0) (dOp idxD (dVar 2) (dNeg (dC (.int 1))))) (dC (.int 0))))) (dApp 2 (dOp idxD (dVar 0) (dOp idxD (dVar 2) (dNeg (dC (.int 1)))))) FUEL [.dat (dT ps), .dat (nD w), .ref 0] [[nD w]] = some (.nx [.dat (dT ps), .dat (nD w), .ref 0] [us.map nD]) := e
  rw [seq_nx e']
  simp
theorem shaped_nD (l : List Nat) : SeqAt.shaped (.tuple (l.map nD)) = true := by
  have hL : ∀ l : List Nat, PyData.canLayAll0 (l.map nD) = true ∧ PyData.depthAll (l.map nD) = 0 := by
    intro l
    induction l with
    | nil => exact ⟨rfl, by simp only [List.map_nil, PyData.depthAll]⟩
    | cons a l ih => exact ⟨by rw [List.map_cons, PyData.canLayAll0, ih.1]; rfl, by rw [List.map_cons, PyData.depthAll, ih.2]; simp only [nD, PyData.depth]; rfl⟩
  unfold SeqAt.shaped
  rw [PyData.canLay0, (hL _).1, PyData.depth, (hL _).2]; rfl
theorem eq_W0 (ws : List Nat) : eqD (dW ws) (.tuple []) = some (decide (ws = [])) := by
  unfold eqD dW
  have h2 := shaped_nD []
  rw [List.map_nil] at h2
  simp only [eqS, shaped_nD, h2, Bool.and_self, if_true]
  cases ws with
  | nil => simp [PyData.eqv, PyData.eqvAll]
  | cons a l => simp [PyData.eqv, PyData.eqvAll]
def asksB : DS := dSeq (dSet 6 (dFnJ run__law_pull (dCons (dVar 0) (dCons (dC (.int 8)) (dNil))))) (dSeq (dSet 7 (dC (.int 0))) (dSeq (dIf (dTst (dOp gtD (dVar 6) (dC (.int 0)))) (dSet 7 (dFnJ run__law_pull (dCons (dVar 0) (dCons (dCall lenD (dCons (dVar 1) (dNil))) (dNil))))) (dNext)) (dSeq (dIf (dAndT (dTst (dOp gtD (dVar 6) (dC (.int 5)))) (dTst (dOp neO (dVar 4) (dTup (dNil))))) (dSeq (dSet 8 (dFn run__law_up (dCons (dVar 1) (dCons (dOp idxD (dVar 4) (dFnJ run__law_pull (dCons (dVar 0) (dCons (dCall lenD (dCons (dVar 4) (dNil))) (dNil))))) (dNil))))) (dSet 7 (dOp idxD (dVar 8) (dFnJ run__law_pull (dCons (dVar 0) (dCons (dCall lenD (dCons (dVar 8) (dNil))) (dNil))))))) (dNext)) (dSet 4 (dOp addD (dVar 4) (dTup (dCons (dVar 7) (dNil))))))))
theorem r_some_asksR {n : Nat} {js : List D} (h : JarOk n js) (hn : n ≤ 1000) (ps : List Nat) (hp : TreeOk ps) (R : Int) (hR0 : 0 ≤ R) (hR1 : R ≤ 40) : ∃ ws js', run__law_some_asks js [dT ps, .int R] = some (.dat (dW ws), js') ∧ WOk ps ws ∧ ws.length ≤ 40 ∧ JarOk (n + 170) js' := by
  have hp9 := hp.1
  suffices hs : ∃ ws js', Rt (d__law_some_asks (slots 9 (.ref 0 :: ([dT ps, .int R] : List D).map .dat)) [js]) (.dat (dW ws)) (fun io => io[0]? = some js') ∧ WOk ps ws ∧ ws.length ≤ 40 ∧ JarOk (n + 170) js' by
    obtain ⟨ps, js', h1, h2, h3⟩ := hs
    exact ⟨ps, js', runJ_rt rfl h1 (by show imAll _ = true; simp), h2, h3⟩
  obtain ⟨d1, js1, e1, h1, h1', j1⟩ := pull_ex (sl := [.ref 0, .dat (dT ps), .dat (.int R), .un, .un, .un, .un, .un, .un]) (X := dC (.int 8)) (rest := []) rfl rfl h (by omega) (by decide) (by decide)
  obtain ⟨v, hv, hv0⟩ : ∃ v : Int, atI ([.int 0, .int 1, .int 2, .int 3, .int 4, .int 6, .int (R / 2), .int R] : List D) d1 = some (.int v) ∧ 0 ≤ v := by
    have : d1 = 0 ∨ d1 = 1 ∨ d1 = 2 ∨ d1 = 3 ∨ d1 = 4 ∨ d1 = 5 ∨ d1 = 6 ∨ d1 = 7 := by omega
    rcases this with rfl | rfl | rfl | rfl | rfl | rfl | rfl | rfl <;> exact ⟨_, rfl, by omega⟩
  obtain ⟨m, hm⟩ : ∃ m : Nat, (if v < R then v else R) = (m : Int) := ⟨(if v < R then v else R).toNat, by split <;> omega⟩
  have hv1 : (m : Int) ≤ 40 := by rw [← hm]; split <;> omega
  have hr := fun io => rng1K_ap (io := io) (j := (m : Int)) (n := m) rfl (by omega)
  have hlen : (rngItems 0 m).length = m := by unfold rngItems; simp
  have key : Nx (dFor (dItR1 (dCons (dVar 3) dNil)) (.one 5) asksB [.ref 0, .dat (dT ps), .dat (.int R), .dat (.int m), .dat (.tuple []), .un, .un, .un, .un] [js1])
      (fun sl io => ∃ s5 s6 s7 s8 ws js', sl = [.ref 0, .dat (dT ps), .dat (.int R), .dat (.int m), .dat (dW ws), s5, s6, s7, s8] ∧ io = [js'] ∧ ws.length = m ∧ (∀ w ∈ ws, w < ps.length + 1) ∧ JarOk (n + 1 + 4 * m) js') := by
    have := Nx_for (items := rngItems 0 m) (c := none) (io1 := [js1]) (it := dItR1 (dCons (dVar 3) dNil)) (tg := .one 5) (sl := [.ref 0, .dat (dT ps), .dat (.int R), .dat (.int m), .dat (.tuple []), .un, .un, .un, .un]) (io := [js1])
      (body := asksB)
      (fun i sl io => ∃ s5 s6 s7 s8 ws js', sl = [.ref 0, .dat (dT ps), .dat (.int R), .dat (.int m), .dat (dW ws), s5, s6, s7, s8] ∧ io = [js'] ∧ ws.length = i ∧ (∀ w ∈ ws, w < ps.length + 1) ∧ JarOk (n + 1 + 4 * i) js')
      (by simp [hr]) ⟨_, _, _, _, [], _, rfl, rfl, rfl, fun w e => by simp at e, j1⟩ ?_ (fun _ _ _ => rfl)
    · rw [hlen] at this; exact this
    rintro i d sl io hi ⟨s5, s6, s7, s8, ws, js2, rfl, rfl, hwl, hw, hj⟩
    obtain ⟨hil, rfl⟩ := rngItems_get hi
    refine ⟨rfl, ?_⟩
    simp only [tgGo_one, bind_some']
    unfold asksB
    refine Nx_seq (P0 := fun sl io => ∃ (t : Int) (js' : List D), 0 ≤ t ∧ JarOk (n + 1 + 4 * i + 1) js' ∧ sl = [.ref 0, .dat (dT ps), .dat (.int R), .dat (.int m), .dat (dW ws), .dat (.int (0 + (i : Nat))), .dat (.int t), s7, s8] ∧ io = [js']) ?_ ?_
    · obtain ⟨d, js4, e, h3, h4, h5⟩ := pull_ex (sl := [.ref 0, .dat (dT ps), .dat (.int R), .dat (.int m), .dat (dW ws), .dat (.int (0 + (i : Nat))), s6, s7, s8]) (X := dC (.int 8)) (rest := []) rfl rfl hj (by omega) (by decide) (by decide)
      have : ([.ref 0, .dat (dT ps), .dat (.int R), .dat (.int m), .dat (dW ws), s5, s6, s7, s8] : List S).set 5 (.dat (.int (0 + (i : Nat)))) = [.ref 0, .dat (dT ps), .dat (.int R), .dat (.int m), .dat (dW ws), .dat (.int (0 + (i : Nat))), s6, s7, s8] := rfl
      rw [this, dSet_ap, e]
      exact ⟨_, _, rfl, d, js4, h3, h5, rfl, rfl⟩
    rintro sl io ⟨t, js3, ht0, hj3, rfl, rfl⟩
    let St (k : Nat) : List S → IO → Prop := fun sl io => ∃ (sp : Nat) (s8 : S) (js' : List D), sp < ps.length + 1 ∧ JarOk (n + 1 + 4 * i + k) js' ∧ sl = [.ref 0, .dat (dT ps), .dat (.int R), .dat (.int m), .dat (dW ws), .dat (.int (0 + (i : Nat))), .dat (.int t), .dat (nD sp), s8] ∧ io = [js']
    refine Nx_seq (P0 := St 1) ?_ ?_
    · simp [-Int.zero_add]
      exact ⟨0, s8, js3, by omega, hj3, by simp [nD], rfl⟩
    rintro sl io ⟨sp, s8, js4, hsp, hj4, rfl, rfl⟩
    refine Nx_seq (P0 := St 2) ?_ ?_
    · by_cases hc : 0 < t
      · obtain ⟨d, js5, e, h3, h4, h5⟩ := pull_ex (sl := [.ref 0, .dat (dT ps), .dat (.int R), .dat (.int m), .dat (dW ws), .dat (.int (0 + (i : Nat))), .dat (.int t), .dat (nD sp), s8]) (X := dCall lenD (dCons (dVar 1) (dNil))) (rest := []) (size := (ps.length : Int) + 1) rfl (by simp [-lenD_tup, lenT]) hj4 (by omega) (by omega) (by omega)
        rw [dIf_ap]
        have ec : (dTst (dOp gtD (dVar 6) (dC (.int 0)))) [.ref 0, .dat (dT ps), .dat (.int R), .dat (.int m), .dat (dW ws), .dat (.int (0 + (i : Nat))), .dat (.int t), .dat (nD sp), s8] [js4] = some (true, [js4]) := by simp [hc]
        rw [ec]
        simp only [bind_some', ifK_ap, if_true]
        rw [dSet_ap, e]
        simp [-Int.zero_add]
        exact ⟨d.toNat, s8, js5, by omega, h5, by simp [nD]; omega, rfl⟩
      · simp [hc, -Int.zero_add]
        exact ⟨sp, s8, js4, hsp, hj4.mono (by omega), rfl, rfl⟩
    rintro sl io ⟨sp, s8, js4, hsp, hj4, rfl, rfl⟩
    refine Nx_seq (P0 := St 4) ?_ ?_
    · have ew := eq_W0 ws
      by_cases hc : 5 < t ∧ ws ≠ []
      · rw [dIf_ap]
        have ec : (dAndT (dTst (dOp gtD (dVar 6) (dC (.int 5)))) (dTst (dOp neO (dVar 4) (dTup (dNil))))) [.ref 0, .dat (dT ps), .dat (.int R), .dat (.int m), .dat (dW ws), .dat (.int (0 + (i : Nat))), .dat (.int t), .dat (nD sp), s8] [js4] = some (true, [js4]) := by simp [hc.1, hc.2, ew]
        rw [ec]
        simp only [bind_some', ifK_ap, if_true]
        have wl : ws.length ≠ 0 := fun z => hc.2 (List.length_eq_zero_iff.mp z)
        obtain ⟨d, js5, e, h3, h4, h5⟩ := pull_ex (sl := [.ref 0, .dat (dT ps), .dat (.int R), .dat (.int m), .dat (dW ws), .dat (.int (0 + (i : Nat))), .dat (.int t), .dat (nD sp), s8]) (X := dCall lenD (dCons (dVar 4) (dNil))) (rest := []) (size := (ws.length : Int)) rfl (by simp [dW]) hj4 (by omega) (by omega) (by omega)
        obtain ⟨k, rfl⟩ : ∃ k : Nat, d = (k : Int) := ⟨d.toNat, by omega⟩
        have hk : k < ws.length := by omega
        have ek : atI (ws.map nD) (k : Int) = some (nD ws[k]) := atI_nat (by rw [List.getElem?_map, List.getElem?_eq_getElem hk]; rfl)
        have hwk := hw ws[k] (List.getElem_mem hk)
        obtain ⟨us, eu, hu1, hu2, hu3⟩ := r_up ps hp ws[k] (by omega)
        refine Nx_seq (P0 := fun sl io => sl = [.ref 0, .dat (dT ps), .dat (.int R), .dat (.int m), .dat (dW ws), .dat (.int (0 + (i : Nat))), .dat (.int t), .dat (nD sp), .dat (.list (us.map nD))] ∧ io = [js5]) ?_ ?_
        · have e1 : dOp idxD (dVar 4) (dFnJ run__law_pull (dCons (dVar 0) (dCons (dCall lenD (dCons (dVar 4) (dNil))) (dNil)))) [.ref 0, .dat (dT ps), .dat (.int R), .dat (.int m), .dat (dW ws), .dat (.int (0 + (i : Nat))), .dat (.int t), .dat (nD sp), s8] [js4] = some (.dat (nD ws[k]), [js5]) := by
            rw [dOp_ap, dVar_ap]
            simp only [List.getElem?_cons_succ, List.getElem?_cons_zero, varK_dat, bind_some', opK_ap]
            rw [e]
            simp [dW, ek]
          rw [dSet_ap, dFn_ap, dCons_ap, dVar_ap]
          simp only [List.getElem?_cons_succ, List.getElem?_cons_zero, varK_dat, bind_some', consK_ap]
          rw [dCons_ap, e1]
          simp [eu]
        rintro sl io ⟨rfl, rfl⟩
        have ul : us.length ≠ 0 := fun z => hu1 (List.length_eq_zero_iff.mp z)
        obtain ⟨d', js6, e', h3', h4', h5'⟩ := pull_ex (sl := [.ref 0, .dat (dT ps), .dat (.int R), .dat (.int m), .dat (dW ws), .dat (.int (0 + (i : Nat))), .dat (.int t), .dat (nD sp), .dat (.list (us.map nD))]) (X := dCall lenD (dCons (dVar 8) (dNil))) (rest := []) (size := (us.length : Int)) rfl (by simp) h5 (by omega) (by omega) (by omega)
        obtain ⟨k', rfl⟩ : ∃ k : Nat, d' = (k : Int) := ⟨d'.toNat, by omega⟩
        have hk' : k' < us.length := by omega
        have ek' : atI (us.map nD) (k' : Int) = some (nD us[k']) := atI_nat (by rw [List.getElem?_map, List.getElem?_eq_getElem hk']; rfl)
        rw [dSet_ap, dOp_ap, dVar_ap]
        simp only [List.getElem?_cons_succ, List.getElem?_cons_zero, varK_dat, bind_some', opK_ap]
        rw [e']
        simp [ek', -Int.zero_add]
        exact ⟨us[k'], _, js6, by have := hu3 us[k'] (List.getElem_mem hk'); omega, h5', rfl, rfl⟩
      · rw [dIf_ap]
        have ec : (dAndT (dTst (dOp gtD (dVar 6) (dC (.int 5)))) (dTst (dOp neO (dVar 4) (dTup (dNil))))) [.ref 0, .dat (dT ps), .dat (.int R), .dat (.int m), .dat (dW ws), .dat (.int (0 + (i : Nat))), .dat (.int t), .dat (nD sp), s8] [js4] = some (false, [js4]) := by
          by_cases h5 : 5 < t
          · have : ws = [] := by
              by_cases z : ws = []
              · exact z
              · exact absurd ⟨h5, z⟩ hc
            simp [h5, this, ew]
            have := ew
            simp_all
          · simp [h5]
        rw [ec]
        exact ⟨_, _, rfl, sp, s8, js4, hsp, hj4.mono (by omega), rfl, rfl⟩
    rintro sl io ⟨sp, s8, js5, hsp, hj5, rfl, rfl⟩
    have ea : addD (dW ws) (.tuple [nD sp]) = some (.dat (dW (ws ++ [sp]))) := by
      show addD (.tuple _) _ = _
      rw [addD_tup, if_pos (by rw [List.length_map, List.length_singleton]; unfold LIM; omega), dW, List.map_append]; rfl
    have ev : dSet 4 (dOp addD (dVar 4) (dTup (dCons (dVar 7) (dNil)))) [.ref 0, .dat (dT ps), .dat (.int R), .dat (.int m), .dat (dW ws), .dat (.int (0 + (i : Nat))), .dat (.int t), .dat (nD sp), s8] [js5] = some (.nx [.ref 0, .dat (dT ps), .dat (.int R), .dat (.int m), .dat (dW (ws ++ [sp])), .dat (.int (0 + (i : Nat))), .dat (.int t), .dat (nD sp), s8] [js5]) := by
      simp [show 1 ≤ LIM by decide, ea, -Int.zero_add]
    exact ⟨_, _, ev, _, _, _, _, ws ++ [sp], js5, rfl, rfl, by simp [hwl], fun w hm => by
      rcases List.mem_append.mp hm with hm | hm
      · exact hw w hm
      · rw [List.mem_singleton] at hm; omega, hj5.mono (by omega)⟩
  obtain ⟨sl', io', ek, s5, s6, s7, s8, ws, js', rfl, rfl, hwl, hw, hj⟩ := key
  refine ⟨ws, js', ?_, ⟨hw, by omega⟩, by omega, hj.mono (by omega)⟩
  unfold d__law_some_asks
  refine Rt_seq (P0 := fun sl io => sl = [.ref 0, .dat (dT ps), .dat (.int R), .dat (.int m), .un, .un, .un, .un, .un] ∧ io = [js1]) ?_ ?_
  · have hd8 : 8 ≤ LIM := by decide
    have : slots 9 (.ref 0 :: ([dT ps, .int R] : List D).map .dat) = [.ref 0, .dat (dT ps), .dat (.int R), .un, .un, .un, .un, .un, .un] := rfl
    rw [this]
    have eL : dLst (dCons (dC (.int 0)) (dCons (dC (.int 1)) (dCons (dC (.int 2)) (dCons (dC (.int 3)) (dCons (dC (.int 4)) (dCons (dC (.int 6)) (dCons (dOp fdivD (dVar 2) (dC (.int 2))) (dCons (dVar 2) (dNil))))))))) [.ref 0, .dat (dT ps), .dat (.int R), .un, .un, .un, .un, .un, .un] [js] = some (.tmp [.int 0, .int 1, .int 2, .int 3, .int 4, .int 6, .int (R / 2), .int R], [js]) := by
      have e3 := fdiv_p (i := R) (j := 2) (by decide) (by decide)
      simp [-fdivD_int, e3, hd8]
    have eM : dOp idxD (dLst (dCons (dC (.int 0)) (dCons (dC (.int 1)) (dCons (dC (.int 2)) (dCons (dC (.int 3)) (dCons (dC (.int 4)) (dCons (dC (.int 6)) (dCons (dOp fdivD (dVar 2) (dC (.int 2))) (dCons (dVar 2) (dNil)))))))))) (dFnJ run__law_pull (dCons (dVar 0) (dCons (dC (.int 8)) (dNil)))) [.ref 0, .dat (dT ps), .dat (.int R), .un, .un, .un, .un, .un, .un] [js] = some (.dat (.int v), [js1]) := by
      rw [dOp_ap, eL, bind_some', opK_ap, e1]
      simp [hv]
    rw [dSet_ap, dCall_ap, dCons_ap, dVar_ap]
    simp only [List.getElem?_cons_succ, List.getElem?_cons_zero, varK_dat, bind_some', consK_ap]
    rw [dCons_ap, eM]
    simp [hm]
  rintro sl io ⟨rfl, rfl⟩
  refine Rt_seq (P0 := fun sl io => sl = [.ref 0, .dat (dT ps), .dat (.int R), .dat (.int m), .dat (.tuple []), .un, .un, .un, .un] ∧ io = [js1]) ?_ ?_
  · simp
  rintro sl io ⟨rfl, rfl⟩
  refine Rt_seq (P0 := fun sl io => sl = [.ref 0, .dat (dT ps), .dat (.int R), .dat (.int m), .dat (dW ws), s5, s6, s7, s8] ∧ io = [js']) ⟨_, _, ek, rfl, rfl⟩ ?_
  rintro sl io ⟨rfl, rfl⟩
  simp
end K75
set_option Elab.async false
set_option linter.all false
set_option maxRecDepth 100000
set_option maxHeartbeats 1000000
namespace K75
open PySem L2 DD TL StrLaws
abbrev Row := List (Option Nat)
def oD : Option Nat → D
  | none => .none
  | some n => nD n
def dR (r : Row) : D := .tuple (r.map oD)
def dK (ps : List Nat) (m : Str) (rows : List Row) : D := .tuple [dT ps, .str m, .tuple (rows.map dR)]
def RowOk (k : Nat) (r : Row) : Prop := r.length = k ∧ ∀ x ∈ r, ∀ n, x = some n → n < 10
structure KatOk (ps : List Nat) (m : Str) (rows : List Row) (k : Nat) : Prop where
  tr : TreeOk ps
  md : m = "key" ∨ m = "bundle"
  ln : rows.length = ps.length + 1
  k1 : 1 ≤ k
  k4 : k ≤ 4
  ok : ∀ r ∈ rows, RowOk k r
theorem im_oD (x : Option Nat) : im (oD x) = true := by cases x <;> rfl
@[simp] theorem imAll_oDs (r : Row) : imAll (r.map oD) = true := imAll_map im_oD r
theorem im_dR (r : Row) : im (dR r) = true := by show imAll _ = true; simp
@[simp] theorem imAll_dRs (l : List Row) : imAll (l.map dR) = true := imAll_map im_dR l
theorem im_dK (ps m rows) : im (dK ps m rows) = true := by
  show imAll _ = true
  simp only [imAll_cons, imAll_nil, im_str, im_tup, imAll_dRs, Bool.and_true]
  show imAll _ = true
  simp
theorem way_in : ∀ m ∈ ([("key" : Str), "bundle"] : List Str), inD (.str m) (.tuple [.str "key", .str "bundle"]) = some true := by decide +kernel
theorem r_is_way {m : Str} (h : m = "key" ∨ m = "bundle") : run_is_way [.str m] = some (.dat (.bool true)) := by
  have e := way_in m (by simpa using h)
  refine runD_rt rfl ?_ rfl
  unfold d_is_way
  simp [slots, show 2 ≤ LIM by decide, e]
theorem at0 (d : D) (l : List D) : atI (d :: l) 0 = some d := at_zero d l
theorem at1 (d e : D) (l : List D) : atI (d :: e :: l) 1 = some e := at_cons d (e :: l) 0
theorem at2 (d e f : D) (l : List D) : atI (d :: e :: f :: l) 2 = some f := at_cons d (e :: f :: l) 1
theorem isi_dT (ps : List Nat) : isiD "tuple" (dT ps) = some (.dat (.bool true)) := isi_tup_tup
def code : Option Nat → Nat
  | none => 45
  | some n => 48 + n
def sgn (x : Option Nat) : Str := ⟨#[code x]⟩
theorem sgn_none : sgn none = "-" := by decide +kernel
theorem sgn_some : ∀ n : Nat, n < 10 → strND [nD n] = some (.dat (.str (sgn (some n)))) := by
  intro n h
  have e : ∀ n : Nat, n < 10 → ((toString ((n : Nat) : Int) : String) : Str) = sgn (some n) := by decide +kernel
  unfold nD strND
  simp only []
  rw [if_pos (by omega), e n h]
theorem strND_none : strND [.none] = some (.dat (.str "None")) := rfl
def rowText (r : Row) : Str := Txt.join "" (r.map sgn)
theorem em_tl : tl ("" : Str) = [] := by decide +kernel
theorem joinL_one : ∀ r : Row, joinL [] (r.map fun x => [code x]) = r.map code
  | [] => rfl
  | [x] => rfl
  | x :: y :: r => by
    have := joinL_one (y :: r)
    rw [List.map_cons, List.map_cons]
    show [code x] ++ ([] ++ joinL [] ([code y] :: r.map fun x => [code x])) = _
    rw [List.map_cons] at this
    rw [this]; rfl
theorem rowText_tl (r : Row) : tl (rowText r) = r.map code := by
  unfold rowText
  rw [join_eq, tl_join, em_tl, List.map_map]
  exact joinL_one r
theorem rowText_len (r : Row) : (rowText r).length = r.length := by
  show (rowText r).cps.size = _
  rw [← Array.length_toList]
  show (tl (rowText r)).length = _
  rw [rowText_tl, List.length_map]
theorem rowText_items (r : Row) : strItems (rowText r) = r.map fun x => .str (sgn x) := by
  unfold strItems
  show (tl (rowText r)).map _ = _
  rw [rowText_tl, List.map_map]; rfl
theorem em_len : ("" : Str).length = 0 := by decide +kernel
theorem sgn_sum (r : Row) : ((r.map sgn).map (·.length)).sum = r.length := by
  induction r with
  | nil => rfl
  | cons a l ih => rw [List.map_cons, List.map_cons, List.sum_cons, ih, List.length_cons]; show 1 + l.length = _; omega
theorem row_join {r : Row} (h : r.length ≤ 100) : joinLen "" (r.map sgn) ≤ LIM := by
  unfold joinLen
  rw [sgn_sum, em_len]
  unfold LIM
  omega
theorem r_word_of {k : Nat} {r : Row} (h : RowOk k r) (hk : k ≤ 4) : run__law_word_of [dR r] = some (.dat (.str (rowText r))) := by
  have hl : r.length ≤ 100 := by rw [h.1]; omega
  have e : lcGo none (.one 1) dYes (dOp idxD (dLst (dCons (dC (.str "-")) (dCons (dCall strND (dCons (dVar 1) (dNil))) (dNil)))) (dCall intD (dCons (dOp isntD (dVar 1) (dC .none)) (dNil)))) [.dat (dR r), .un] (r.map oD) 0 [] = some ((r.map sgn).map .str, []) := by
    rw [List.map_map]
    refine lcGo_mapL rfl oD (PyData.str ∘ sgn) r 0 (by unfold LIM; omega) fun x hx => ⟨_, .dat (.str (sgn x)), rfl, ?_, rfl⟩
    have h2 : 2 ≤ LIM := by decide
    cases x with
    | none => simp [oD, sgn_none, strND_none, h2, at0]
    | some n =>
      have e := sgn_some n (h.2 _ hx n rfl)
      have e' : strND [.int (n : Int)] = some (.dat (.str (sgn (some n)))) := e
      simp [oD, nD, e', h2, at1]
  refine runD_rt rfl ?_ rfl
  unfold d__law_word_of
  have e2 : itemsOf [] (.dat (dR r)) = some (r.map oD, none) := rfl
  have e4 : joinD "" [.list ((r.map sgn).map .str)] = some (.dat (.str (rowText r))) := by
    rw [joinD_lst, strsOf_strs, bind_some', if_pos (row_join hl)]; rfl
  simp [slots, e2, e, -joinD_lst, e4, -List.map_map]
theorem sg_in : ∀ n : Nat, n < 10 → inD (.str (sgn (some n))) (.str "0123456789-") = some true := by decide +kernel
theorem sg_in0 : inD (.str (sgn none)) (.str "0123456789-") = some true := by decide +kernel
theorem sg_occ : ∀ n : Nat, n < 10 → Builtin.Str.occurrences "0123456789-" (sgn (some n)) 0 ("0123456789-" : Str).length 1 = [n] := by decide +kernel
theorem sg_ne : ∀ n : Nat, n < 10 → sgn (some n) ≠ "-" := by decide +kernel
theorem tl_inj {a b : Str} (h : tl a = tl b) : a = b := by
  have := map_tl_inj (l := [a]) (m := [b]) (by rw [List.map_cons, List.map_cons, h])
  cases this
  rfl
theorem joinL_app {S : List Nat} : ∀ {x y : List (List Nat)}, x ≠ [] → y ≠ [] → joinL S (x ++ y) = joinL S x ++ (S ++ joinL S y)
  | [], _, h, _ => absurd rfl h
  | [p], [], _, h => absurd rfl h
  | [p], a :: l, _, _ => rfl
  | p :: q :: r, y, _, h => by
    show p ++ (S ++ joinL S ((q :: r) ++ y)) = (p ++ (S ++ joinL S (q :: r))) ++ (S ++ joinL S y)
    rw [joinL_app (by simp) h]
    simp only [List.append_assoc]
def catText (ps : List Nat) (m : Str) (rows : List Row) : Str := Txt.join " " (m :: treeText ps :: "rows" :: rows.map rowText)
def parts (ps : List Nat) (m : Str) (rows : List Row) : List Str := m :: ("tree" : Str) :: (ps.map ltr ++ ("rows" : Str) :: rows.map rowText)
theorem catText_parts (ps : List Nat) (m : Str) (rows : List Row) : catText ps m rows = Txt.join " " (parts ps m rows) := by
  refine tl_inj ?_
  unfold catText parts treeText
  rw [join_eq, join_eq, join_eq, tl_join, tl_join]
  simp only [List.map_cons, List.map_append, tl_join]
  generalize tl (Str.ofString " ") = S
  generalize tl m = a
  generalize tl (Str.ofString "rows") = b
  generalize (rows.map rowText).map tl = R
  generalize tl (Str.ofString "tree") = t
  generalize (ps.map ltr).map tl = T
  show a ++ (S ++ (joinL S (t :: T) ++ (S ++ joinL S (b :: R)))) = a ++ (S ++ joinL S ((t :: T) ++ (b :: R)))
  rw [joinL_app (by simp) (by simp)]
theorem sum_le {B : Nat} : ∀ {l : List Str}, (∀ x ∈ l, x.length ≤ B) → (l.map (·.length)).sum ≤ l.length * B
  | [], _ => by simp
  | a :: l, h => by
    have h1 := h a List.mem_cons_self
    have h2 := sum_le fun x hx => h x (List.mem_cons_of_mem _ hx)
    rw [List.map_cons, List.sum_cons, List.length_cons, Nat.add_mul]
    omega
theorem md_len : ∀ m ∈ ([("key" : Str), "bundle"] : List Str), m.length ≤ 6 ∧ 32 ∉ tl m ∧ m.cps.all (· < 0x110000) = true := by decide +kernel
theorem md {m : Str} (h : m = "key" ∨ m = "bundle") : m.length ≤ 6 ∧ 32 ∉ tl m ∧ m.cps.all (· < 0x110000) = true := md_len m (by simpa using h)
theorem rows_len : ("rows" : Str).length = 4 := by decide +kernel
theorem rows_tl : 32 ∉ tl ("rows" : Str) := by decide +kernel
theorem list_len {ps : List Nat} {m : Str} {rows : List Row} {k : Nat} (h : KatOk ps m rows k) : ∀ x ∈ (m :: treeText ps :: "rows" :: rows.map rowText : List Str), x.length ≤ 23 := by
  intro x hx
  rcases List.mem_cons.mp hx with rfl | hx
  · have := (md h.md).1; omega
  rcases List.mem_cons.mp hx with rfl | hx
  · have := treeText_len ps; have := h.tr.1; omega
  rcases List.mem_cons.mp hx with rfl | hx
  · rw [rows_len]; omega
  · obtain ⟨r, hr, rfl⟩ := List.mem_map.mp hx
    rw [rowText_len, (h.ok r hr).1]
    have := h.k4
    omega
theorem list_join {ps : List Nat} {m : Str} {rows : List Row} {k : Nat} (h : KatOk ps m rows k) : joinLen " " (m :: treeText ps :: "rows" :: rows.map rowText) ≤ LIM ∧ (catText ps m rows).length ≤ 400 := by
  have h1 := sum_le (list_len h)
  have h2 : (m :: treeText ps :: "rows" :: rows.map rowText : List Str).length ≤ 13 := by
    rw [List.length_cons, List.length_cons, List.length_cons, List.length_map, h.ln]
    have := h.tr.1
    omega
  have h3 := join_length_le " " (m :: treeText ps :: "rows" :: rows.map rowText)
  have h4 : (m :: treeText ps :: "rows" :: rows.map rowText : List Str).length * 23 ≤ 13 * 23 := Nat.mul_le_mul_right _ h2
  rw [sp_len] at h3
  constructor
  · unfold joinLen
    rw [sp_len]
    unfold LIM
    omega
  · unfold catText
    rw [join_eq]
    omega
theorem code_ne (x : Option Nat) : code x ≠ 32 := by
  cases x with
  | none => decide
  | some n => show 48 + n ≠ 32; omega
theorem catText_split {ps : List Nat} {m : Str} {rows : List Row} {k : Nat} (h : KatOk ps m rows k) : Txt.split (catText ps m rows) " " = parts ps m rows := by
  rw [catText_parts]
  refine split_join sp_tl sp_k (by unfold parts; simp) fun p hp => ?_
  unfold parts at hp
  rcases List.mem_cons.mp hp with rfl | hp
  · exact (md h.md).2.1
  rcases List.mem_cons.mp hp with rfl | hp
  · exact tree_tl
  rcases List.mem_append.mp hp with hp | hp
  · obtain ⟨w, _, rfl⟩ := List.mem_map.mp hp
    rw [ltr_tl, List.mem_singleton]
    omega
  rcases List.mem_cons.mp hp with rfl | hp
  · exact rows_tl
  · obtain ⟨r, _, rfl⟩ := List.mem_map.mp hp
    rw [rowText_tl]
    intro hm
    obtain ⟨x, _, hx⟩ := List.mem_map.mp hm
    exact code_ne x hx
theorem rows_comp {k : Nat} {rows : List Row} (f : List D → Option A) (hf : ∀ r, RowOk k r → f [dR r] = some (.dat (.str (rowText r)))) (h : ∀ r ∈ rows, RowOk k r) (hl : rows.length ≤ 100) (sl : List S) (io : IO) (j : Nat) (hj : j < sl.length) :
    lcGo none (.one j) dYes (dFn f (dCons (dVar j) dNil)) sl (rows.map dR) 0 io = some ((rows.map rowText).map .str, io) := by
  rw [List.map_map]
  refine lcGo_mapL rfl dR (PyData.str ∘ rowText) rows 0 (by unfold LIM; omega) fun r hr => ⟨_, .dat (.str (rowText r)), rfl, ?_, rfl⟩
  simp [List.getElem?_set_self hj, hf r (h r hr)]
theorem r_book_words {ps : List Nat} {m : Str} {rows : List Row} {k : Nat} (h : KatOk ps m rows k) : run__law_book_words [dK ps m rows] = some (.dat (.str (catText ps m rows))) := by
  refine runD_rt rfl ?_ rfl
  unfold d__law_book_words
  have e1 := rows_comp run__law_word_of (fun r hr => r_word_of hr h.k4) h.ok (by rw [h.ln]; have := h.tr.1; omega) [.dat (dK ps m rows), .un] [] 1 (by simp)
  have e2 : addD (.list [.str m, .str (treeText ps), .str "rows"]) (.list ((rows.map rowText).map .str)) = some (.tmp ((m :: treeText ps :: "rows" :: rows.map rowText : List Str).map .str)) := by
    rw [addD_lst, if_pos (by simp [h.ln]; have := h.tr.1; unfold LIM; omega)]; rfl
  have e3 : joinD " " [.list ((m :: treeText ps :: "rows" :: rows.map rowText : List Str).map .str)] = some (.dat (.str (catText ps m rows))) := by
    rw [joinD_lst, strsOf_strs, bind_some', if_pos (list_join h).1]; rfl
  have i0 : idxD (dK ps m rows) (.int 0) = some (.dat (dT ps)) := rfl
  have i1 : idxD (dK ps m rows) (.int 1) = some (.dat (.str m)) := rfl
  have i2 : idxD (dK ps m rows) (.int 2) = some (.dat (.tuple (rows.map dR))) := rfl
  have es : slots 2 ([dK ps m rows].map .dat) = [.dat (dK ps m rows), .un] := rfl
  rw [es]
  simp [i0, i1, i2, r_world_words ps h.tr, e1, -addD_lst, e2, e3, -joinD_lst, -List.map_cons, -List.map_map, show 3 ≤ LIM by decide]
theorem atN {l : List D} {i : Int} {n : Nat} {d : D} (hi : i = (n : Int)) (h : l[n]? = some d) : atI l i = some d := by
  subst hi
  exact atI_nat h
theorem dR_each {k : Nat} {rows : List Row} (hk : k ≤ 4) (h : ∀ r ∈ rows, RowOk k r) : Each 1 88 (rows.map dR) := fun d hd => by
  obtain ⟨r, hr, rfl⟩ := List.mem_map.mp hd
  have ho := h r hr
  have e : Each 0 21 (r.map oD) := fun d hd => by
    obtain ⟨x, hx, rfl⟩ := List.mem_map.mp hd
    cases x with
    | none => exact ⟨rfl, by simp only [oD, PyData.depth]; omega, by simp only [oD, PyData.weight]; omega⟩
    | some n => exact nD_each (l := [n]) (fun w hw => by rw [List.mem_singleton] at hw; subst hw; exact ho.2 _ hx w rfl) (nD n) (by simp)
  obtain ⟨a, b, c⟩ := e.all
  rw [List.length_map, ho.1] at c
  refine ⟨by simpa only [dR, leaf] using a, by simp only [dR, PyData.depth]; omega, ?_⟩
  simp only [dR, PyData.weight]
  have : k * (21 + 1) ≤ 4 * 22 := Nat.mul_le_mul_right _ hk
  omega
theorem shaped_leafs {ds : List D} (h : leafs ds = true) (hd : PyData.depthAll ds ≤ 63) : SeqAt.shaped (.list ds) = true := by
  unfold SeqAt.shaped
  rw [PyData.canLay0, (leafs_lay h).1, PyData.depth, decide_eq_true (by omega)]; rfl
theorem eq_nil {ds : List D} (h : leafs ds = true) (hd : PyData.depthAll ds ≤ 63) : eqD (.list ds) (.list []) = some (decide (ds = [])) := by
  have h2 : SeqAt.shaped (.list []) = true := by decide
  unfold eqD
  simp only [eqS, shaped_leafs h hd, h2, Bool.and_self, if_true]
  cases ds with
  | nil => simp [PyData.eqv, PyData.eqvAll]
  | cons a l => simp [PyData.eqv, PyData.eqvAll]
theorem pull_io {sl : List S} {io : IO} {js : List D} {X : DE} {n : Nat} {size : Int} (h0 : sl[0]? = some (.ref 0)) (hx : X sl io = some (.dat (.int size), io)) (hj0 : io[0]? = some js) (hj : JarOk n js) (hn : n ≤ 1000000) (h1 : 1 ≤ size) (h2 : size ≤ 1000000) :
    ∃ (d : Int) (js' : List D), dFnJ run__law_pull (dCons (dVar 0) (dCons X dNil)) sl io = some (.dat (.int d), io.set 0 js') ∧ 0 ≤ d ∧ d < size ∧ JarOk (n + 1) js' := by
  obtain ⟨d, js', e, h3, h4, h5⟩ := r_pull hj hn size h1 h2
  refine ⟨d, js', ?_, h3, h4, h5⟩
  simp [h0, hx, e, hj0]
def RowsAt (k7 : Nat) (rows : List Row) (io : IO) : Prop := io[k7]? = some (rows.map dR)
structure St (n k7 k9 : Nat) (rows : List Row) (row : Row) (io : IO) : Prop where
  j : ∃ js, io[0]? = some js ∧ JarOk n js
  r7 : io[k7]? = some (rows.map dR)
  r9 : io[k9]? = some (row.map oD)
theorem set0_get {io : IO} {k : Nat} {js : List D} (hk : k ≠ 0) : (io.set 0 js)[k]? = io[k]? := List.getElem?_set_ne (Ne.symm hk)
theorem set0_0 {io : IO} {js js' : List D} (h : io[0]? = some js) : (io.set 0 js')[0]? = some js' := by
  have := (List.getElem?_eq_some_iff.mp h).1
  exact List.getElem?_set_self this
theorem St.pulled {n k7 k9 : Nat} {rows : List Row} {row : Row} {io : IO} (s : St n k7 k9 rows row io) (h7 : k7 ≠ 0) (h9 : k9 ≠ 0) {n' : Nat} {js' : List D} (h : JarOk n' js') : St n' k7 k9 rows row (io.set 0 js') := by
  obtain ⟨js, e, _⟩ := s.j
  exact ⟨⟨js', set0_0 e, h⟩, by rw [set0_get h7]; exact s.r7, by rw [set0_get h9]; exact s.r9⟩
theorem St.mono {n m k7 k9 : Nat} {rows : List Row} {row : Row} {io : IO} (s : St n k7 k9 rows row io) (h : n ≤ m) : St m k7 k9 rows row io := by
  obtain ⟨js, e, hj⟩ := s.j
  exact ⟨⟨js, e, hj.mono h⟩, s.r7, s.r9⟩
def bsl (ps : List Nat) (m : Str) (k k7 k9 i j : Nat) (F G E : Int) (s11 : S) : List S := [.ref 0, .dat (dT ps), .dat (.str m), .dat (.int (k : Nat)), .dat (.int F), .dat (.int G), .dat (.int E), .ref k7, .dat (nD i), .ref k9, .dat (nD j), s11]
def bookIn : DS := dSeq (dSet 11 (dC .none)) (dSeq (dIf (dTst (dOp ltD (dFnJ run__law_pull (dCons (dVar 0) (dCons (dC (.int 6)) (dNil)))) (dOp idxD (dLst (dCons (dC (.int 0)) (dCons (dC (.int 6)) (dCons (dC (.int 4)) (dCons (dC (.int 1)) (dCons (dC (.int 4)) (dCons (dC (.int 3)) (dCons (dC (.int 3)) (dCons (dC (.int 2)) (dNil)))))))))) (dVar 4)))) (dSeq (dSet 11 (dOp modD (dCall intD (dCons (dOp addD (dVar 6) (dOp mulD (dFnJ run__law_pull (dCons (dVar 0) (dCons (dVar 5) (dNil)))) (dCall intD (dCons (dOp neO (dVar 4) (dC (.int 5))) (dNil))))) (dNil))) (dC (.int 10)))) (dIf (dAndT (dTst (dOp gtD (dVar 4) (dC (.int 5)))) (dAndT (dTst (dOp gtD (dVar 8) (dC (.int 0)))) (dTst (dOp eqO (dFnJ run__law_pull (dCons (dVar 0) (dCons (dC (.int 2)) (dNil)))) (dC (.int 0)))))) (dSet 11 (dOp idxD (dOp idxD (dVar 7) (dOp idxD (dLst (dCons (dOp idxD (dVar 1) (dVar 8)) (dCons (dC (.int 0)) (dNil)))) (dFnJ run__law_pull (dCons (dVar 0) (dCons (dC (.int 2)) (dNil)))))) (dVar 10))) (dNext))) (dNext)) (dApp 9 (dVar 11)))
def bookOut : DS := dSeq (dOwn 9 (dLst (dNil))) (dSeq (dFor (dItR1 (dCons (dVar 3) (dNil))) (.one 10) bookIn) (dSeq (dApp 7 (dCall tupleD (dCons (dVar 9) (dNil)))) (dSeq (dIf (dAndT (dTst (dOp eqO (dVar 8) (dC (.int 0)))) (dTst (dOp eqO (dVar 4) (dC (.int 2))))) (dOwn 7 (dLst (dCons (dOp mulTD (dTup (dCons (dC .none) (dNil))) (dVar 3)) (dNil)))) (dNext)) (dIf (dAndT (dTst (dOp eqO (dVar 8) (dC (.int 0)))) (dTst (dOp eqO (dVar 4) (dC (.int 5))))) (dOwn 7 (dLst (dCons (dOp mulTD (dTup (dCons (dVar 6) (dNil))) (dVar 3)) (dNil)))) (dNext)))))
def Small1 (x : Option Nat) : Prop := ∀ n, x = some n → n < 10
theorem nat_of {d : Int} (h : 0 ≤ d) : ∃ n : Nat, d = (n : Int) := ⟨d.toNat, by omega⟩
theorem in_turn {n : Nat} {ps : List Nat} {m : Str} {k k7 k9 i j : Nat} {F G E : Int} {s11 : S} {rows : List Row} {row : Row} {io : IO} (hp : TreeOk ps) (hs : St n k7 k9 rows row io) (h7 : k7 ≠ 0) (h9 : k9 ≠ 0) (h79 : k7 ≠ k9) (hn : n ≤ 100000)
    (hF : 0 ≤ F ∧ F < 8) (hG : 1 ≤ G ∧ G ≤ 10) (hE : 0 ≤ E ∧ E < 10) (hk : k ≤ 4) (hj : j < k) (hrl : row.length = j) (hri : rows.length = i) (hip : i ≤ ps.length) (hro : ∀ r ∈ rows, RowOk k r) :
    Nx (bookIn (bsl ps m k k7 k9 i j F G E s11) io) fun sl io' => ∃ s11 x, Small1 x ∧ sl = bsl ps m k k7 k9 i j F G E s11 ∧ St (n + 4) k7 k9 rows (row ++ [x]) io' := by
  unfold bookIn
  refine Nx_seq (P0 := fun sl io' => sl = bsl ps m k k7 k9 i j F G E (.dat .none) ∧ io = io') ?_ ?_
  · simp [bsl]
  rintro sl _ ⟨rfl, rfl⟩
  refine Nx_seq (P0 := fun sl io' => ∃ x, Small1 x ∧ sl = bsl ps m k k7 k9 i j F G E (.dat (oD x)) ∧ St (n + 4) k7 k9 rows row io') ?_ ?_
  · obtain ⟨js, ej, hjs⟩ := hs.j
    obtain ⟨d1, js1, e1, a1, b1, j1⟩ := pull_io (sl := bsl ps m k k7 k9 i j F G E (.dat .none)) (X := dC (.int 6)) rfl rfl ej hjs (by omega) (by decide) (by decide)
    have s1 := hs.pulled h7 h9 j1
    obtain ⟨v, hv⟩ : ∃ v : Int, atI ([.int 0, .int 6, .int 4, .int 1, .int 4, .int 3, .int 3, .int 2] : List D) F = some (.int v) := by
      have : F = 0 ∨ F = 1 ∨ F = 2 ∨ F = 3 ∨ F = 4 ∨ F = 5 ∨ F = 6 ∨ F = 7 := by omega
      rcases this with rfl | rfl | rfl | rfl | rfl | rfl | rfl | rfl <;> exact ⟨_, rfl⟩
    have et : dTst (dOp ltD (dFnJ run__law_pull (dCons (dVar 0) (dCons (dC (.int 6)) (dNil)))) (dOp idxD (dLst (dCons (dC (.int 0)) (dCons (dC (.int 6)) (dCons (dC (.int 4)) (dCons (dC (.int 1)) (dCons (dC (.int 4)) (dCons (dC (.int 3)) (dCons (dC (.int 3)) (dCons (dC (.int 2)) (dNil)))))))))) (dVar 4))) (bsl ps m k k7 k9 i j F G E (.dat .none)) io = some (decide (d1 < v), io.set 0 js1) := by
      rw [dTst_ap, dOp_ap, e1]
      simp [bsl, hv, show 8 ≤ LIM by decide]
    rw [dIf_ap, et]
    simp only [bind_some', ifK_ap]
    by_cases hc : d1 < v
    rotate_left
    · rw [decide_eq_false hc]
      exact ⟨_, _, rfl, none, (fun _ h => nomatch h), rfl, s1.mono (by omega)⟩
    rw [decide_eq_true hc]
    simp only [if_true]
    generalize hio1 : io.set 0 js1 = io1 at s1
    -- the sign
    obtain ⟨js1', ej1, hjs1⟩ := s1.j
    obtain ⟨d2, js2, e2, a2, b2, j2⟩ := pull_io (sl := bsl ps m k k7 k9 i j F G E (.dat .none)) (X := dVar 5) (size := G) rfl rfl ej1 hjs1 (by omega) (by omega) (by omega)
    have s2 := s1.pulled h7 h9 j2
    refine Nx_seq (P0 := fun sl io' => ∃ x : Nat, x < 10 ∧ sl = bsl ps m k k7 k9 i j F G E (.dat (nD x)) ∧ io' = io1.set 0 js2) ?_ ?_
    · obtain ⟨c, hc0, hc1, hcv⟩ : ∃ c : Int, 0 ≤ c ∧ c ≤ 1 ∧ (dCall intD (dCons (dOp neO (dVar 4) (dC (.int 5))) dNil)) (bsl ps m k k7 k9 i j F G E (.dat .none)) (io1.set 0 js2) = some (.dat (.int c), io1.set 0 js2) := by
        by_cases h5 : F = 5
        · exact ⟨0, by omega, by omega, by simp [bsl, h5]⟩
        · exact ⟨1, by omega, by omega, by simp [bsl, h5]⟩
      have em := mul_r (i := d2) (j := c) hc0 (by omega)
      have er := mod_p (i := E + d2 * c) (j := 10) (by decide)
      obtain ⟨x, hx⟩ := nat_of (Int.emod_nonneg (E + d2 * c) (show (10 : Int) ≠ 0 by decide))
      have hx10 := Int.emod_lt_of_pos (E + d2 * c) (show (0 : Int) < 10 by decide)
      have eA : dOp addD (dVar 6) (dOp mulD (dFnJ run__law_pull (dCons (dVar 0) (dCons (dVar 5) (dNil)))) (dCall intD (dCons (dOp neO (dVar 4) (dC (.int 5))) (dNil)))) (bsl ps m k k7 k9 i j F G E (.dat .none)) io1 = some (.dat (.int (E + d2 * c)), io1.set 0 js2) := by
        have e6 : dVar 6 (bsl ps m k k7 k9 i j F G E (.dat .none)) io1 = some (.dat (.int E), io1) := rfl
        rw [dOp_ap, e6, bind_some', opK_ap, dOp_ap, e2, bind_some', opK_ap, hcv, bind_some', opL_ap]
        simp [-mulD_int, em]
      refine ⟨_, _, ?_, x, by omega, rfl, rfl⟩
      rw [dSet_ap, dOp_ap, dCall_ap, dCons_ap, eA]
      simp [-modD_int, er, hx, nD, bsl]
    rintro sl _ ⟨x, hx, rfl, rfl⟩
    generalize io1.set 0 js2 = io2 at s2
    by_cases hcc : 5 < F ∧ 0 < i
    rotate_left
    · have et : dAndT (dTst (dOp gtD (dVar 4) (dC (.int 5)))) (dAndT (dTst (dOp gtD (dVar 8) (dC (.int 0)))) (dTst (dOp eqO (dFnJ run__law_pull (dCons (dVar 0) (dCons (dC (.int 2)) (dNil)))) (dC (.int 0))))) (bsl ps m k k7 k9 i j F G E (.dat (nD x))) io2 = some (false, io2) := by
        by_cases h5 : 5 < F
        · have h8 : i = 0 := by omega
          simp [bsl, h5, h8, nD]
        · simp [bsl, h5]
      rw [dIf_ap, et]
      exact ⟨_, _, rfl, some x, fun n hn => by cases hn; exact hx, rfl, s2.mono (by omega)⟩
    obtain ⟨js2', ej2, hjs2⟩ := s2.j
    obtain ⟨d3, js3, e3, a3, b3, j3⟩ := pull_io (sl := bsl ps m k k7 k9 i j F G E (.dat (nD x))) (X := dC (.int 2)) rfl rfl ej2 hjs2 (by omega) (by decide) (by decide)
    have s3 := s2.pulled h7 h9 j3
    have et : dAndT (dTst (dOp gtD (dVar 4) (dC (.int 5)))) (dAndT (dTst (dOp gtD (dVar 8) (dC (.int 0)))) (dTst (dOp eqO (dFnJ run__law_pull (dCons (dVar 0) (dCons (dC (.int 2)) (dNil)))) (dC (.int 0))))) (bsl ps m k k7 k9 i j F G E (.dat (nD x))) io2 = some (decide (d3 = 0), io2.set 0 js3) := by
      have e4 : dTst (dOp gtD (dVar 4) (dC (.int 5))) (bsl ps m k k7 k9 i j F G E (.dat (nD x))) io2 = some (true, io2) := by simp [bsl, hcc.1]
      have e8 : dTst (dOp gtD (dVar 8) (dC (.int 0))) (bsl ps m k k7 k9 i j F G E (.dat (nD x))) io2 = some (true, io2) := by
        simp [bsl, nD, hcc.2]
      rw [dAndT_ap, e4, bind_some', andK_ap, if_pos rfl, dAndT_ap, e8, bind_some', andK_ap, if_pos rfl, dTst_ap, dOp_ap, e3]
      simp
    rw [dIf_ap, et]
    simp only [bind_some', ifK_ap]
    by_cases hd3 : d3 = 0
    rotate_left
    · rw [decide_eq_false hd3]
      exact ⟨_, _, rfl, some x, fun n hn => by cases hn; exact hx, rfl, s3.mono (by omega)⟩
    rw [decide_eq_true hd3]
    simp only [if_true]
    generalize io2.set 0 js3 = io3 at s3
    obtain ⟨js3', ej3, hjs3⟩ := s3.j
    obtain ⟨d4, js4, e4, a4, b4, j4⟩ := pull_io (sl := bsl ps m k k7 k9 i j F G E (.dat (nD x))) (X := dC (.int 2)) rfl rfl ej3 hjs3 (by omega) (by decide) (by decide)
    have s4 := s3.pulled h7 h9 j4
    obtain ⟨i0, rfl⟩ : ∃ i0, i = i0 + 1 := ⟨i - 1, by omega⟩
    have hps : ps[i0]? = some (ps[i0]'(by omega)) := List.getElem?_eq_getElem (by omega)
    have hle := hp.2 i0 _ hps
    have ew : idxD (dT ps) (nD (i0 + 1)) = some (.dat (nD (ps[i0]'(by omega)))) := by
      show (atI _ _).map _ = _
      rw [worldS ps i0 (by omega)]; rfl
    obtain ⟨q, hq, hqe⟩ : ∃ q : Nat, q < rows.length ∧ atI [nD (ps[i0]'(by omega)), .int 0] d4 = some (nD q) := by
      have : d4 = 0 ∨ d4 = 1 := by omega
      rcases this with rfl | rfl
      · exact ⟨ps[i0]'(by omega), by omega, rfl⟩
      · exact ⟨0, by omega, rfl⟩
    have hrq := hro rows[q] (List.getElem_mem hq)
    have er : idxD (.list (rows.map dR)) (nD q) = some (.dat (dR rows[q])) := by
      show (atI _ _).map _ = _
      rw [atI_nat (j := q) (by rw [List.getElem?_map, List.getElem?_eq_getElem hq]; rfl)]; rfl
    have hjr : j < rows[q].length := by rw [hrq.1]; exact hj
    have ey : idxD (dR rows[q]) (nD j) = some (.dat (oD rows[q][j])) := by
      show (atI _ _).map _ = _
      rw [atI_nat (j := j) (by rw [List.getElem?_map, List.getElem?_eq_getElem hjr]; rfl)]; rfl
    have eI : dOp idxD (dLst (dCons (dOp idxD (dVar 1) (dVar 8)) (dCons (dC (.int 0)) (dNil)))) (dFnJ run__law_pull (dCons (dVar 0) (dCons (dC (.int 2)) (dNil)))) (bsl ps m k k7 k9 (i0 + 1) j F G E (.dat (nD x))) io3 = some (.dat (nD q), io3.set 0 js4) := by
      have eL : dLst (dCons (dOp idxD (dVar 1) (dVar 8)) (dCons (dC (.int 0)) (dNil))) (bsl ps m k k7 k9 (i0 + 1) j F G E (.dat (nD x))) io3 = some (.tmp [nD (ps[i0]'(by omega)), .int 0], io3) := by
        simp [bsl, ew, show 2 ≤ LIM by decide]
      rw [dOp_ap, eL, bind_some', opK_ap, e4]
      simp [hqe]
    have e7 : dVar 7 (bsl ps m k k7 k9 (i0 + 1) j F G E (.dat (nD x))) io3 = some (.ref k7, io3) := rfl
    have e10 : dVar 10 (bsl ps m k k7 k9 (i0 + 1) j F G E (.dat (nD x))) (io3.set 0 js4) = some (.dat (nD j), io3.set 0 js4) := rfl
    refine ⟨_, _, ?_, rows[q][j], fun n hn => hrq.2 _ (List.getElem_mem hjr) n hn, rfl, s4.mono (by omega)⟩
    have r7 := s4.r7
    rw [dSet_ap, dOp_ap, dOp_ap, e7, bind_some', opK_ap, eI]
    simp only [bind_some', opL_ap, vw_ref, r7, Option.map_some, vw_dat, er, opK_ap, e10, ey]
    rfl
  rintro sl io' ⟨x, hx, rfl, s⟩
  have e11 : dVar 11 (bsl ps m k k7 k9 i j F G E (.dat (oD x))) io' = some (.dat (oD x), io') := by
    cases x <;> rfl
  have e9 : (bsl ps m k k7 k9 i j F G E (.dat (oD x)))[9]? = some (.ref k9) := rfl
  have hlen : (row.map oD).length < LIM := by rw [List.length_map, hrl]; unfold LIM; omega
  have hk9 := (List.getElem?_eq_some_iff.mp s.r9).1
  refine ⟨bsl ps m k k7 k9 i j F G E (.dat (oD x)), io'.set k9 (row.map oD ++ [oD x]), ?_, .dat (oD x), x, hx, rfl, ?_⟩
  · rw [dApp_ap, e9, appK_ap, e11, bind_some', appL_ap, s.r9, bind_some', if_pos ⟨im_oD x, hlen⟩]
  · obtain ⟨js, ej, hjs⟩ := s.j
    refine ⟨⟨js, by rw [List.getElem?_set_ne h9]; exact ej, hjs⟩, by rw [List.getElem?_set_ne (Ne.symm h79)]; exact s.r7, ?_⟩
    rw [List.getElem?_set_self hk9, List.map_append]; rfl
theorem mul_tup {d : D} {k : Nat} (h1 : 1 ≤ k) (h4 : k ≤ 4) : mulTD (.tuple [d]) (.int (k : Nat)) = some (.dat (.tuple (List.replicate k d))) := by
  have : k = 1 ∨ k = 2 ∨ k = 3 ∨ k = 4 := by omega
  rcases this with rfl | rfl | rfl | rfl <;> rfl
structure Bt (n k7 : Nat) (rows : List Row) (io : IO) : Prop where
  j : ∃ js, io[0]? = some js ∧ JarOk n js
  r7 : io[k7]? = some (rows.map dR)
  nz : k7 ≠ 0
theorem Bt.mono {n m k7 : Nat} {rows : List Row} {io : IO} (s : Bt n k7 rows io) (h : n ≤ m) : Bt m k7 rows io := by
  obtain ⟨js, e, hj⟩ := s.j
  exact ⟨⟨js, e, hj.mono h⟩, s.r7, s.nz⟩
def osl (ps : List Nat) (m : Str) (k k7 : Nat) (F G E : Int) (s8 s9 s10 s11 : S) : List S := [.ref 0, .dat (dT ps), .dat (.str m), .dat (.int (k : Nat)), .dat (.int F), .dat (.int G), .dat (.int E), .ref k7, s8, s9, s10, s11]
theorem out_turn {n : Nat} {ps : List Nat} {m : Str} {k k7 i : Nat} {F G E : Int} {s9 s10 s11 : S} {rows : List Row} {io : IO} (hp : TreeOk ps) (hs : Bt n k7 rows io) (hn : n ≤ 50000)
    (hF : 0 ≤ F ∧ F < 8) (hG : 1 ≤ G ∧ G ≤ 10) (hE : 0 ≤ E ∧ E < 10) (hk1 : 1 ≤ k) (hk : k ≤ 4) (hri : rows.length = i) (hip : i ≤ ps.length) (hro : ∀ r ∈ rows, RowOk k r) :
    Nx (bookOut (osl ps m k k7 F G E (.dat (nD i)) s9 s10 s11) io) fun sl io' => ∃ k7' rows' s8 s9 s10 s11, sl = osl ps m k k7' F G E s8 s9 s10 s11 ∧ Bt (n + 20) k7' rows' io' ∧ rows'.length = i + 1 ∧ ∀ r ∈ rows', RowOk k r := by
  have hl7 := (List.getElem?_eq_some_iff.mp hs.r7).1
  obtain ⟨js0, ej0, hj0⟩ := hs.j
  have hl0 := (List.getElem?_eq_some_iff.mp ej0).1
  unfold bookOut
  generalize hk9 : io.length = k9
  refine Nx_seq (P0 := fun sl io' => sl = osl ps m k k7 F G E (.dat (nD i)) (.ref k9) s10 s11 ∧ St n k7 k9 rows [] io') ?_ ?_
  · simp only [dOwn_ap, dLst_ap, dNil_ap, bind_some', vwIs_nil, List.length_nil, Nat.zero_le, if_true, ownK_tmp, imAll_nil, Nx_nx]
    refine ⟨by rw [hk9]; rfl, ⟨js0, by rw [List.getElem?_append_left hl0]; exact ej0, hj0⟩, by rw [List.getElem?_append_left hl7]; exact hs.r7, ?_⟩
    rw [← hk9, List.getElem?_concat_length]; rfl
  rintro sl io1 ⟨rfl, s1⟩
  have h79 : k7 ≠ k9 := by omega
  have h9 : k9 ≠ 0 := by omega
  refine Nx_seq (P0 := fun sl io' => ∃ s10 s11 row, sl = osl ps m k k7 F G E (.dat (nD i)) (.ref k9) s10 s11 ∧ St (n + 4 * k) k7 k9 rows row io' ∧ RowOk k row) ?_ ?_
  · have hr := fun io => rng1K_ap (io := io) (j := (k : Int)) (n := k) rfl (by omega)
    have hlen : (rngItems 0 k).length = k := by unfold rngItems; simp
    have key := Nx_for (items := rngItems 0 k) (c := none) (io1 := io1) (it := dItR1 (dCons (dVar 3) dNil)) (tg := .one 10) (body := bookIn) (sl := osl ps m k k7 F G E (.dat (nD i)) (.ref k9) s10 s11) (io := io1)
      (fun j sl io' => ∃ s10 s11 row, sl = osl ps m k k7 F G E (.dat (nD i)) (.ref k9) s10 s11 ∧ St (n + 4 * j) k7 k9 rows row io' ∧ RowOk j row)
      (by simp [osl, hr]) ⟨s10, s11, [], rfl, s1, rfl, fun x h => nomatch h⟩ (by
        rintro j d sl io' hi ⟨s10, s11, row, rfl, s, hrow⟩
        obtain ⟨hj, rfl⟩ := rngItems_get hi
        refine ⟨rfl, ?_⟩
        have e : (tgGo (.one 10) (.int (0 + (j : Nat))) (osl ps m k k7 F G E (.dat (nD i)) (.ref k9) s10 s11)) = some (bsl ps m k k7 k9 i j F G E s11) := by
          rw [Int.zero_add]; rfl
        rw [e, bind_some']
        refine (in_turn hp s hs.nz h9 h79 (by omega) hF hG hE hk hj hrow.1 hri hip hro).imp ?_
        rintro sl io2 ⟨s11', x, hx, rfl, s'⟩
        refine ⟨.dat (nD j), s11', row ++ [x], rfl, s'.mono (by omega), by rw [List.length_append, hrow.1]; rfl, fun y hy => ?_⟩
        rcases List.mem_append.mp hy with hy | hy
        · exact hrow.2 y hy
        · rw [List.mem_singleton] at hy; subst hy; exact hx) (fun _ _ _ => rfl)
    rw [hlen] at key
    exact key
  rintro sl io2 ⟨s10, s11, row, rfl, s2, hrow⟩
  have hk7 := (List.getElem?_eq_some_iff.mp s2.r7).1
  refine Nx_seq (P0 := fun sl io' => sl = osl ps m k k7 F G E (.dat (nD i)) (.ref k9) s10 s11 ∧ Bt (n + 20) k7 (rows ++ [row]) io') ?_ ?_
  · have e1 : (dCall tupleD (dCons (dVar 9) dNil)) (osl ps m k k7 F G E (.dat (nD i)) (.ref k9) s10 s11) io2 = some (.dat (dR row), io2) := by
      have r9 := s2.r9
      simp [osl, r9, dR]
    have e7 : (osl ps m k k7 F G E (.dat (nD i)) (.ref k9) s10 s11)[7]? = some (.ref k7) := rfl
    have hlen : (rows.map dR).length < LIM := by rw [List.length_map]; have := hp.1; unfold LIM; omega
    rw [dApp_ap, e7, appK_ap, e1, bind_some', appL_ap, s2.r7, bind_some', if_pos ⟨im_dR row, hlen⟩, Nx_nx]
    obtain ⟨js, ej, hjs⟩ := s2.j
    refine ⟨rfl, ⟨js, by rw [List.getElem?_set_ne hs.nz]; exact ej, hjs.mono (by omega)⟩, ?_, hs.nz⟩
    rw [List.getElem?_set_self hk7, List.map_append]; rfl
  rintro sl io3 ⟨rfl, s3⟩
  have hall : ∀ r ∈ rows ++ [row], RowOk k r := fun r hr => by
    rcases List.mem_append.mp hr with hr | hr
    · exact hro r hr
    · rw [List.mem_singleton] at hr; subst hr; exact hrow
  have hlen1 : (rows ++ [row]).length = i + 1 := by rw [List.length_append, hri]; rfl
  generalize rows ++ [row] = rows1 at *
  have rep : ∀ x : Option Nat, (∀ n, x = some n → n < 10) → RowOk k (List.replicate k x) := fun x hx => ⟨List.length_replicate, fun y hy => by rw [(List.mem_replicate.mp hy).2]; exact hx⟩
  have repD : ∀ x : Option Nat, PyData.tuple (List.replicate k (oD x)) = dR (List.replicate k x) := fun x => by unfold dR; rw [List.map_replicate]
  refine Nx_seq (P0 := fun sl io' => ∃ k7' rows', sl = osl ps m k k7' F G E (.dat (nD i)) (.ref k9) s10 s11 ∧ Bt (n + 20) k7' rows' io' ∧ rows'.length = i + 1 ∧ ∀ r ∈ rows', RowOk k r) ?_ ?_
  · by_cases hc : i = 0 ∧ F = 2
    · obtain ⟨rfl, rfl⟩ := hc
      have em := mul_tup (d := .none) hk1 hk
      have er := repD none
      have e : dIf (dAndT (dTst (dOp eqO (dVar 8) (dC (.int 0)))) (dTst (dOp eqO (dVar 4) (dC (.int 2))))) (dOwn 7 (dLst (dCons (dOp mulTD (dTup (dCons (dC .none) (dNil))) (dVar 3)) (dNil)))) (dNext) (osl ps m k k7 2 G E (.dat (nD 0)) (.ref k9) s10 s11) io3 = some (.nx (osl ps m k io3.length 2 G E (.dat (nD 0)) (.ref k9) s10 s11) (io3 ++ [[dR (List.replicate k none)]])) := by
        have er' : PyData.tuple (List.replicate k PyData.none) = dR (List.replicate k none) := er
        simp [osl, nD, show 1 ≤ LIM by decide, em, er', im_dR]
      obtain ⟨js, ej, hjs⟩ := s3.j
      have hl0 := (List.getElem?_eq_some_iff.mp ej).1
      refine ⟨_, _, e, io3.length, [List.replicate k none], rfl, ⟨⟨js, by rw [List.getElem?_append_left hl0]; exact ej, hjs⟩, by rw [List.getElem?_concat_length]; rfl, by omega⟩, rfl, fun r hr => ?_⟩
      rw [List.mem_singleton] at hr
      subst hr
      exact rep none fun _ h => nomatch h
    · have e : dIf (dAndT (dTst (dOp eqO (dVar 8) (dC (.int 0)))) (dTst (dOp eqO (dVar 4) (dC (.int 2))))) (dOwn 7 (dLst (dCons (dOp mulTD (dTup (dCons (dC .none) (dNil))) (dVar 3)) (dNil)))) (dNext) (osl ps m k k7 F G E (.dat (nD i)) (.ref k9) s10 s11) io3 = some (.nx (osl ps m k k7 F G E (.dat (nD i)) (.ref k9) s10 s11) io3) := by
        by_cases h0 : i = 0
        · have h2 : F ≠ 2 := fun z => hc ⟨h0, z⟩
          simp [osl, nD, h0, h2]
        · simp [osl, nD, h0]
      exact ⟨_, _, e, k7, rows1, rfl, s3, hlen1, hall⟩
  rintro sl io4 ⟨k7', rows', rfl, s4, hl4, hall4⟩
  by_cases hc : i = 0 ∧ F = 5
  · obtain ⟨rfl, rfl⟩ := hc
    obtain ⟨e0, rfl⟩ := nat_of hE.1
    have em := mul_tup (d := nD e0) hk1 hk
    have er' : PyData.tuple (List.replicate k (nD e0)) = dR (List.replicate k (some e0)) := repD (some e0)
    have e : dIf (dAndT (dTst (dOp eqO (dVar 8) (dC (.int 0)))) (dTst (dOp eqO (dVar 4) (dC (.int 5))))) (dOwn 7 (dLst (dCons (dOp mulTD (dTup (dCons (dVar 6) (dNil))) (dVar 3)) (dNil)))) (dNext) (osl ps m k k7' 5 G e0 (.dat (nD 0)) (.ref k9) s10 s11) io4 = some (.nx (osl ps m k io4.length 5 G e0 (.dat (nD 0)) (.ref k9) s10 s11) (io4 ++ [[dR (List.replicate k (some e0))]])) := by
      have em' : mulTD (.tuple [.int (e0 : Int)]) (.int (k : Int)) = some (.dat (dR (List.replicate k (some e0)))) := by rw [← er']; exact em
      simp [osl, nD, show 1 ≤ LIM by decide, em', im_dR]
    obtain ⟨js, ej, hjs⟩ := s4.j
    have hl0 := (List.getElem?_eq_some_iff.mp ej).1
    refine ⟨_, _, e, io4.length, [List.replicate k (some e0)], _, _, _, _, rfl, ⟨⟨js, by rw [List.getElem?_append_left hl0]; exact ej, hjs⟩, by rw [List.getElem?_concat_length]; rfl, by omega⟩, rfl, fun r hr => ?_⟩
    rw [List.mem_singleton] at hr
    subst hr
    exact rep (some e0) fun n hn => by cases hn; omega
  · have e : dIf (dAndT (dTst (dOp eqO (dVar 8) (dC (.int 0)))) (dTst (dOp eqO (dVar 4) (dC (.int 5))))) (dOwn 7 (dLst (dCons (dOp mulTD (dTup (dCons (dVar 6) (dNil))) (dVar 3)) (dNil)))) (dNext) (osl ps m k k7' F G E (.dat (nD i)) (.ref k9) s10 s11) io4 = some (.nx (osl ps m k k7' F G E (.dat (nD i)) (.ref k9) s10 s11) io4) := by
      by_cases h0 : i = 0
      · have h2 : F ≠ 5 := fun z => hc ⟨h0, z⟩
        simp [osl, nD, h0, h2]
      · simp [osl, nD, h0]
    exact ⟨_, _, e, k7', rows', _, _, _, _, rfl, s4, hl4, hall4⟩
theorem r_some_book {n : Nat} {js : List D} (h : JarOk n js) (hn : n ≤ 1000) (ps : List Nat) (hp : TreeOk ps) (m : Str) (hm : m = "key" ∨ m = "bundle") (k : Nat) (hk1 : 1 ≤ k) (hk : k ≤ 4) :
    ∃ rows js', run__law_some_book js [dT ps, .str m, .int (k : Nat)] = some (.dat (dK ps m rows), js') ∧ KatOk ps m rows k ∧ JarOk (n + 300) js' := by
  have hp9 := hp.1
  suffices hs : ∃ rows js', Rt (d__law_some_book (slots 12 (.ref 0 :: ([dT ps, .str m, .int (k : Nat)] : List D).map .dat)) [js]) (.dat (dK ps m rows)) (fun io => io[0]? = some js') ∧ KatOk ps m rows k ∧ JarOk (n + 300) js' by
    obtain ⟨rows, js', h1, h2, h3⟩ := hs
    exact ⟨rows, js', runJ_rt rfl h1 (im_dK ps m rows), h2, h3⟩
  have es : slots 12 (.ref 0 :: ([dT ps, .str m, .int (k : Nat)] : List D).map .dat) = [.ref 0, .dat (dT ps), .dat (.str m), .dat (.int (k : Nat)), .un, .un, .un, .un, .un, .un, .un, .un] := rfl
  rw [es]
  obtain ⟨F, js1, e1, a1, b1, j1⟩ := pull_ex (sl := [.ref 0, .dat (dT ps), .dat (.str m), .dat (.int (k : Nat)), .un, .un, .un, .un, .un, .un, .un, .un]) (X := dC (.int 8)) (rest := []) rfl rfl h (by omega) (by decide) (by decide)
  obtain ⟨d2, js2, e2, a2, b2, j2⟩ := pull_ex (sl := [.ref 0, .dat (dT ps), .dat (.str m), .dat (.int (k : Nat)), .dat (.int F), .un, .un, .un, .un, .un, .un, .un]) (X := dC (.int 4)) (rest := []) rfl rfl j1 (by omega) (by decide) (by decide)
  obtain ⟨G, hG, hG1, hG2⟩ : ∃ G : Int, atI ([.int 1, .int 2, .int 3, .int 10] : List D) d2 = some (.int G) ∧ 1 ≤ G ∧ G ≤ 10 := by
    have : d2 = 0 ∨ d2 = 1 ∨ d2 = 2 ∨ d2 = 3 := by omega
    rcases this with rfl | rfl | rfl | rfl <;> exact ⟨_, rfl, by decide, by decide⟩
  obtain ⟨E, js3, e3, a3, b3, j3⟩ := pull_ex (sl := [.ref 0, .dat (dT ps), .dat (.str m), .dat (.int (k : Nat)), .dat (.int F), .dat (.int G), .un, .un, .un, .un, .un, .un]) (X := dC (.int 10)) (rest := []) rfl rfl j2 (by omega) (by decide) (by decide)
  have hr := fun io => rng1K_ap (io := io) (j := (ps.length : Int) + 1) (n := ps.length + 1) (by omega) (by omega)
  have hlen : (rngItems 0 (ps.length + 1)).length = ps.length + 1 := by unfold rngItems; simp
  have key := Nx_for (items := rngItems 0 (ps.length + 1)) (c := none) (io1 := [js3, []]) (it := dItR1 (dCons (dCall lenD (dCons (dVar 1) dNil)) dNil)) (tg := .one 8) (body := bookOut) (sl := osl ps m k 1 F G E .un .un .un .un) (io := [js3, []])
      (fun i sl io' => ∃ k7 rows s8 s9 s10 s11, sl = osl ps m k k7 F G E s8 s9 s10 s11 ∧ Bt (n + 3 + 20 * i) k7 rows io' ∧ rows.length = i ∧ ∀ r ∈ rows, RowOk k r)
      (by simp [osl, -lenD_tup, lenT, hr]) ⟨1, [], _, _, _, _, rfl, ⟨⟨js3, rfl, j3⟩, rfl, by omega⟩, rfl, fun x h => nomatch h⟩ (by
        rintro i d sl io' hi ⟨k7, rows, s8, s9, s10, s11, rfl, s, hrl, hro⟩
        obtain ⟨hj, rfl⟩ := rngItems_get hi
        refine ⟨rfl, ?_⟩
        have e : (tgGo (.one 8) (.int (0 + (i : Nat))) (osl ps m k k7 F G E s8 s9 s10 s11)) = some (osl ps m k k7 F G E (.dat (nD i)) s9 s10 s11) := by
          rw [Int.zero_add]; rfl
        rw [e, bind_some']
        refine (out_turn hp s (by omega) ⟨a1, b1⟩ ⟨hG1, hG2⟩ ⟨a3, b3⟩ hk1 hk hrl (by omega) hro).imp ?_
        rintro sl io2 ⟨k7', rows', s8, s9, s10, s11, rfl, s', hl', ho'⟩
        exact ⟨k7', rows', s8, s9, s10, s11, rfl, s'.mono (by omega), hl', ho'⟩) (fun _ _ _ => rfl)
  rw [hlen] at key
  obtain ⟨sl', io', ek, k7, rows, s8, s9, s10, s11, rfl, s, hrl, hro⟩ := key
  obtain ⟨js', ej, hj'⟩ := s.j
  refine ⟨rows, js', ?_, ⟨hp, hm, hrl, hk1, hk, hro⟩, hj'.mono (by omega)⟩
  unfold d__law_some_book
  refine Rt_seq (P0 := fun sl io => sl = [.ref 0, .dat (dT ps), .dat (.str m), .dat (.int (k : Nat)), .dat (.int F), .un, .un, .un, .un, .un, .un, .un] ∧ io = [js1]) ?_ ?_
  · rw [dSet_ap, e1]
    simp
  rintro sl io ⟨rfl, rfl⟩
  refine Rt_seq (P0 := fun sl io => sl = [.ref 0, .dat (dT ps), .dat (.str m), .dat (.int (k : Nat)), .dat (.int F), .dat (.int G), .un, .un, .un, .un, .un, .un] ∧ io = [js2]) ?_ ?_
  · have eL : dLst (dCons (dC (.int 1)) (dCons (dC (.int 2)) (dCons (dC (.int 3)) (dCons (dC (.int 10)) (dNil))))) [.ref 0, .dat (dT ps), .dat (.str m), .dat (.int (k : Nat)), .dat (.int F), .un, .un, .un, .un, .un, .un, .un] [js1] = some (.tmp [.int 1, .int 2, .int 3, .int 10], [js1]) := by
      simp [show 4 ≤ LIM by decide]
    rw [dSet_ap, dOp_ap, eL, bind_some', opK_ap, e2]
    simp [hG]
  rintro sl io ⟨rfl, rfl⟩
  refine Rt_seq (P0 := fun sl io => sl = [.ref 0, .dat (dT ps), .dat (.str m), .dat (.int (k : Nat)), .dat (.int F), .dat (.int G), .dat (.int E), .un, .un, .un, .un, .un] ∧ io = [js3]) ?_ ?_
  · rw [dSet_ap, e3]
    simp [osl]
  rintro sl io ⟨rfl, rfl⟩
  refine Rt_seq (P0 := fun sl io => sl = osl ps m k 1 F G E .un .un .un .un ∧ io = [js3, []]) ?_ ?_
  · simp [osl]
  rintro sl io ⟨rfl, rfl⟩
  refine Rt_seq (P0 := fun sl io => sl = osl ps m k k7 F G E s8 s9 s10 s11 ∧ io = io') ⟨_, _, ek, rfl, rfl⟩ ?_
  rintro sl io2 ⟨rfl, rfl⟩
  have r7 := s.r7
  simp [osl, r7, dK, show 3 ≤ LIM by decide, ej]
theorem r_some_mode {n : Nat} {js : List D} (h : JarOk n js) (hn : n ≤ 1000) : ∃ (m : Str) (js' : List D), run__law_some_mode js [] = some (.dat (.str m), js') ∧ (m = "key" ∨ m = "bundle") ∧ JarOk (n + 1) js' := by
  obtain ⟨d, js1, e1, a1, b1, j1⟩ := pull_ex (sl := [.ref 0]) (X := dC (.int 2)) (rest := []) rfl rfl h (by omega) (by decide) (by decide)
  obtain ⟨m, hm, hm'⟩ : ∃ m : Str, atI ([.str "key", .str "bundle"] : List D) d = some (.str m) ∧ (m = "key" ∨ m = "bundle") := by
    have : d = 0 ∨ d = 1 := by omega
    rcases this with rfl | rfl
    · exact ⟨_, rfl, .inl rfl⟩
    · exact ⟨_, rfl, .inr rfl⟩
  refine ⟨m, js1, runJ_rt rfl ?_ rfl, hm', j1⟩
  unfold d__law_some_mode
  have es : slots 1 (.ref 0 :: ([] : List D).map .dat) = [.ref 0] := rfl
  have eL : dLst (dCons (dC (.str "key")) (dCons (dC (.str "bundle")) (dNil))) [.ref 0] [js] = some (.tmp [.str "key", .str "bundle"], [js]) := by
    simp [show 2 ≤ LIM by decide]
  rw [es, dRet_ap, dOp_ap, eL, bind_some', opK_ap, e1]
  simp [hm]
end K75
set_option Elab.async false
set_option linter.all false
set_option maxRecDepth 100000
set_option maxHeartbeats 1000000
namespace K75
open PySem L2 DD TL StrLaws
def pD (p : Nat × Nat) : D := .tuple [nD p.1, nD p.2]
def dP (ps : List (Nat × Nat)) : D := .tuple (ps.map pD)
def Asc (ws : List Nat) : Prop := ∀ (i a b : Nat), ws[i]? = some a → ws[i + 1]? = some b → a < b
inductive Gate where
  | g1 (w : Str) (ws : List Nat)
  | g2 (qs : List (Nat × Nat))
def gD : Gate → D
  | .g1 w ws => .tuple [.str w, dW ws]
  | .g2 qs => .tuple [.str "swap", dP qs]
def GOk (ps : List Nat) : Gate → Prop
  | .g1 w ws => WOk ps ws ∧ ws.length ≤ 40 ∧ (((w = "only" ∨ w = "lift") ∧ Asc ws) ∨ (w = "head" ∨ w = "pad"))
  | .g2 qs => (∀ q ∈ qs, q.1 < ps.length + 1 ∧ q.2 < ps.length + 1) ∧ qs.length ≤ 10 ∧ Asc (qs.map (·.1))
theorem im_pD (p : Nat × Nat) : im (pD p) = true := rfl
@[simp] theorem imAll_pDs (l : List (Nat × Nat)) : imAll (l.map pD) = true := imAll_map im_pD l
theorem im_gD (g : Gate) : im (gD g) = true := by
  cases g with
  | g1 w ws => show imAll _ = true; simp only [imAll_cons, im_str, imAll_nil, Bool.and_true, Bool.true_and]; show imAll _ = true; simp
  | g2 qs => show imAll _ = true; simp only [imAll_cons, im_str, imAll_nil, Bool.and_true, Bool.true_and]; show imAll _ = true; simp
def pT (p : Nat × Nat) : Str := ⟨#[97 + p.1, 62, 97 + p.2]⟩
theorem pT_tl (p : Nat × Nat) : tl (pT p) = [97 + p.1, 62, 97 + p.2] := rfl
theorem gt_tl : tl (">" : Str) = [62] := by decide +kernel
theorem pT_app (p : Nat × Nat) : ltr p.1 ++ ">" ++ ltr p.2 = pT p := by
  refine tl_inj ?_
  rw [tl_append, tl_append, gt_tl]; rfl
def Lw (ws : List Nat) : List Str := if ws = [] then ["-"] else ws.map ltr
def Lp (qs : List (Nat × Nat)) : List Str := if qs = [] then ["-"] else qs.map pT
theorem lets_Lw (ws : List Nat) : lets ws = Txt.join " " (Lw ws) := by
  unfold lets Lw
  split
  · rw [dash_join]
  · rfl
theorem Lw_ne (ws : List Nat) : Lw ws ≠ [] := by
  unfold Lw
  split
  · simp
  · simpa using (by assumption)
theorem Lp_ne (ws : List (Nat × Nat)) : Lp ws ≠ [] := by
  unfold Lp
  split
  · simp
  · simpa using (by assumption)
theorem join_cons (x : Str) {l : List Str} (h : l ≠ []) : Txt.join " " (x :: l) = x ++ " " ++ Txt.join " " l := by
  rw [join_eq, join_eq]
  cases l with
  | nil => exact absurd rfl h
  | cons a r => rfl
def gParts : Gate → List Str
  | .g1 w ws => w :: Lw ws
  | .g2 qs => "swap" :: Lp qs
def gText (g : Gate) : Str := Txt.join " " (gParts g)
theorem gText1 (w : Str) (ws : List Nat) : gText (.g1 w ws) = w ++ " " ++ lets ws := by
  rw [lets_Lw, ← join_cons w (Lw_ne ws)]; rfl
theorem word_mem : ∀ w ∈ ([("only" : Str), "lift", "head", "pad"] : List Str), w.length ≤ 4 ∧ 32 ∉ tl w ∧ w.cps.all (· < 0x110000) = true ∧ w ≠ "swap" ∧ inD (.str w) (.tuple [.str "only", .str "lift", .str "head", .str "pad"]) = some true := by decide +kernel
theorem word1 {ps : List Nat} {w : Str} {ws : List Nat} (h : GOk ps (.g1 w ws)) : w ∈ ([("only" : Str), "lift", "head", "pad"] : List Str) := by
  obtain ⟨_, _, h⟩ := h
  simp
  rcases h with ⟨h | h, _⟩ | h | h <;> simp [h]
theorem swap_len : ("swap" : Str).length = 4 := by decide +kernel
theorem swap_tl : 32 ∉ tl ("swap" : Str) := by decide +kernel
theorem dash_tl : 32 ∉ tl ("-" : Str) := by decide +kernel
theorem gParts_no {ps : List Nat} {g : Gate} (h : GOk ps g) : ∀ p ∈ gParts g, 32 ∉ tl p := by
  intro p hp
  cases g with
  | g1 w ws =>
    rcases List.mem_cons.mp hp with rfl | hp
    · exact (word_mem _ (word1 h)).2.1
    unfold Lw at hp
    split at hp
    · rw [List.mem_singleton] at hp; subst hp; exact dash_tl
    · obtain ⟨a, _, rfl⟩ := List.mem_map.mp hp
      rw [ltr_tl, List.mem_singleton]
      omega
  | g2 qs =>
    rcases List.mem_cons.mp hp with rfl | hp
    · exact swap_tl
    unfold Lp at hp
    split at hp
    · rw [List.mem_singleton] at hp; subst hp; exact dash_tl
    · obtain ⟨a, _, rfl⟩ := List.mem_map.mp hp
      rw [pT_tl]
      simp
      omega
theorem gText_split {ps : List Nat} {g : Gate} (h : GOk ps g) : Txt.split (gText g) " " = gParts g := by
  refine split_join sp_tl sp_k (by cases g <;> simp [gParts]) (gParts_no h)
theorem dash_len : ("-" : Str).length = 1 := by decide +kernel
theorem gParts_small {ps : List Nat} {g : Gate} (h : GOk ps g) : (gParts g).length ≤ 50 ∧ ∀ x ∈ gParts g, x.length ≤ 4 := by
  cases g with
  | g1 w ws =>
    have hl := h.2.1
    constructor
    · have : (Lw ws).length ≤ 40 := by
        unfold Lw
        split
        · simp
        · rw [List.length_map]; exact hl
      show (w :: Lw ws).length ≤ 50
      rw [List.length_cons]
      omega
    · intro x hx
      rcases List.mem_cons.mp hx with rfl | hx
      · exact (word_mem _ (word1 h)).1
      unfold Lw at hx
      split at hx
      · rw [List.mem_singleton] at hx; subst hx; rw [dash_len]; omega
      · obtain ⟨a, _, rfl⟩ := List.mem_map.mp hx
        rw [ltr_len]; omega
  | g2 qs =>
    have hl := h.2.1
    constructor
    · have : (Lp qs).length ≤ 10 := by
        unfold Lp
        split
        · simp
        · rw [List.length_map]; exact hl
      show ("swap" :: Lp qs : List Str).length ≤ 50
      rw [List.length_cons]
      omega
    · intro x hx
      rcases List.mem_cons.mp hx with rfl | hx
      · rw [swap_len]; omega
      unfold Lp at hx
      split at hx
      · rw [List.mem_singleton] at hx; subst hx; rw [dash_len]; omega
      · obtain ⟨a, _, rfl⟩ := List.mem_map.mp hx
        show 3 ≤ 4
        omega
theorem gText_len {ps : List Nat} {g : Gate} (h : GOk ps g) : (gText g).length ≤ 250 ∧ joinLen " " (gParts g) ≤ LIM := by
  obtain ⟨h1, h2⟩ := gParts_small h
  have h3 := sum_le h2
  have h4 := join_length_le " " (gParts g)
  have h5 : (gParts g).length * 4 ≤ 50 * 4 := Nat.mul_le_mul_right _ h1
  rw [sp_len] at h4
  constructor
  · unfold gText
    rw [join_eq]
    omega
  · unfold joinLen
    rw [sp_len]
    unfold LIM
    omega
theorem gText_Small {ps : List Nat} {g : Gate} (ht : TreeOk ps) (h : GOk ps g) : Small (.str (gText g)) := by
  refine Small.str ?_ (by have := (gText_len h).1; omega)
  unfold gText
  rw [join_eq, ← Array.all_toList]
  show (tl (Str.join " " (gParts g))).all _ = true
  rw [tl_join, List.all_eq_true]
  intro x hx
  have hp9 := ht.1
  rcases joinL_mem hx with h' | ⟨p, hp, h'⟩
  · rw [sp_tl, List.mem_singleton] at h'
    subst h'; decide
  · obtain ⟨y, hy, rfl⟩ := List.mem_map.mp hp
    have lit : ∀ z : Str, (tl z).all (fun c => decide (c < 0x110000)) = true → x ∈ tl z → decide (x < 0x110000) = true := fun z hz hx => List.all_eq_true.mp hz x hx
    cases g with
    | g1 w ws =>
      rcases List.mem_cons.mp hy with rfl | hy
      · refine lit _ ?_ h'
        have := (word_mem _ (word1 h)).2.2.1
        rw [← Array.all_toList] at this
        exact this
      unfold Lw at hy
      split at hy
      · rw [List.mem_singleton] at hy; subst hy; exact lit _ (by decide +kernel) h'
      · obtain ⟨a, ha, rfl⟩ := List.mem_map.mp hy
        rw [ltr_tl, List.mem_singleton] at h'
        have := h.1.lt ht ha
        subst h'
        exact decide_eq_true (by omega)
    | g2 qs =>
      rcases List.mem_cons.mp hy with rfl | hy
      · exact lit _ (by decide +kernel) h'
      unfold Lp at hy
      split at hy
      · rw [List.mem_singleton] at hy; subst hy; exact lit _ (by decide +kernel) h'
      · obtain ⟨a, ha, rfl⟩ := List.mem_map.mp hy
        have := h.1 a ha
        rw [pT_tl] at h'
        simp at h'
        exact decide_eq_true (by omega)
theorem pD_each {qs : List (Nat × Nat)} (h : ∀ q ∈ qs, q.1 < 10 ∧ q.2 < 10) : Each 1 44 (qs.map pD) := fun d hd => by
  obtain ⟨q, hq, rfl⟩ := List.mem_map.mp hd
  have ho := h q hq
  have e : Each 0 21 ([q.1, q.2].map nD) := nD_each fun w hw => by
    rcases List.mem_cons.mp hw with rfl | hw
    · exact ho.1
    · rw [List.mem_singleton] at hw; subst hw; exact ho.2
  obtain ⟨a, b, c⟩ := e.all
  have c' : PyData.weightAll [nD q.1, nD q.2] ≤ 44 := c
  have b' : PyData.depthAll [nD q.1, nD q.2] ≤ 0 := b
  exact ⟨by simp only [pD, leaf]; exact a, by simp only [pD, PyData.depth]; omega, by simp only [pD, PyData.weight]; omega⟩
theorem gD_small {ps : List Nat} {g : Gate} (ht : TreeOk ps) (h : GOk ps g) : Small (gD g) := by
  have hp9 := ht.1
  cases g with
  | g1 w ws =>
    have hw := word_mem _ (word1 h)
    have hs := Small.str hw.2.2.1 (by omega)
    obtain ⟨a, b, c⟩ := (nD_each (l := ws) fun x hx => h.1.lt ht hx).all
    have hl := h.2.1
    rw [List.length_map] at c
    have c2 : ws.length * (21 + 1) ≤ 40 * 22 := Nat.mul_le_mul_right _ hl
    refine Small.tuple (n := 1) (w := 1000) (fun d hd => ?_) (by omega) (by simp)
    rcases List.mem_cons.mp hd with rfl | hd
    · exact ⟨hs.lf, by simp only [PyData.depth]; omega, by simp only [PyData.weight]; exact Nat.le_trans hw.1 (by omega)⟩
    rw [List.mem_singleton] at hd
    subst hd
    exact ⟨by simp only [dW, leaf]; exact a, by simp only [dW, PyData.depth]; omega, by simp only [dW, PyData.weight]; omega⟩
  | g2 qs =>
    have hs : Small (.str "swap") := Small.str (by decide +kernel) (by rw [swap_len]; omega)
    obtain ⟨a, b, c⟩ := (pD_each (qs := qs) fun x hx => by have := h.1 x hx; omega).all
    have hl := h.2.1
    rw [List.length_map] at c
    have c2 : qs.length * (44 + 1) ≤ 10 * 45 := Nat.mul_le_mul_right _ hl
    refine Small.tuple (n := 2) (w := 1000) (fun d hd => ?_) (by omega) (by simp)
    rcases List.mem_cons.mp hd with rfl | hd
    · exact ⟨hs.lf, by simp only [PyData.depth]; omega, by simp only [PyData.weight]; have := swap_len; exact Nat.le_trans (Nat.le_of_eq this) (by omega)⟩
    rw [List.mem_singleton] at hd
    subst hd
    exact ⟨by simp only [dP, leaf]; exact a, by simp only [dP, PyData.depth]; omega, by simp only [dP, PyData.weight]; omega⟩
theorem pT_len (p : Nat × Nat) : (pT p).length = 3 := rfl
theorem gt_len : (">" : Str).length = 1 := by decide +kernel
theorem app_len (a b : Str) : (a ++ b).length = a.length + b.length := strLen_append a b
theorem em_app (a : Str) : Str.empty ++ a = a := by
  refine tl_inj ?_
  rw [tl_append]; rfl
theorem pairs_comp (qs : List (Nat × Nat)) (hq : ∀ q ∈ qs, q.1 < 10 ∧ q.2 < 10) (hl : qs.length ≤ 100) (a b : S) (w : List S) (hw : w.length = 4) (io : IO) :
    lcGo none (.many [4, 5]) dYes (dFs [dFmt (dOp idxD (dC (.str "abcdefghij")) (dVar 4)), dC (.str ">"), dFmt (dOp idxD (dC (.str "abcdefghij")) (dVar 5))]) (w ++ [a, b]) (qs.map pD) 0 io = some ((qs.map pT).map .str, io) := by
  obtain ⟨w0, w1, w2, w3, rfl⟩ : ∃ w0 w1 w2 w3, w = [w0, w1, w2, w3] := by
    match w, hw with
    | [w0, w1, w2, w3], _ => exact ⟨_, _, _, _, rfl⟩
  rw [List.map_map]
  refine lcGo_mapL rfl pD (PyData.str ∘ pT) qs 0 (by unfold LIM; omega) fun q hm => ⟨[w0, w1, w2, w3, .dat (nD q.1), .dat (nD q.2)], .dat (.str (pT q)), rfl, ?_, rfl⟩
  have h := hq q hm
  have e1 := r_letter q.1 h.1
  have e2 := r_letter q.2 h.2
  have l1 : (ltr q.1).length ≤ LIM := by rw [ltr_len]; decide
  have l2 : (ltr q.2).length ≤ LIM := by rw [ltr_len]; decide
  have f1 : dFmt (dOp idxD (dC (.str "abcdefghij")) (dVar 4)) [w0, w1, w2, w3, .dat (nD q.1), .dat (nD q.2)] io = some (.dat (.str (ltr q.1)), io) := by
    have : dOp idxD (dC (.str "abcdefghij")) (dVar 4) [w0, w1, w2, w3, .dat (nD q.1), .dat (nD q.2)] io = some (.dat (.str (ltr q.1)), io) := by simp [-idxD_str, e1]
    unfold dFmt
    rw [this]
    simp [l1]
  have f2 : dFmt (dOp idxD (dC (.str "abcdefghij")) (dVar 5)) [w0, w1, w2, w3, .dat (nD q.1), .dat (nD q.2)] io = some (.dat (.str (ltr q.2)), io) := by
    have : dOp idxD (dC (.str "abcdefghij")) (dVar 5) [w0, w1, w2, w3, .dat (nD q.1), .dat (nD q.2)] io = some (.dat (.str (ltr q.2)), io) := by simp [-idxD_str, e2]
    unfold dFmt
    rw [this]
    simp [l2]
  have g1 : (ltr q.1 ++ ">").length ≤ LIM := by rw [app_len, ltr_len, gt_len]; decide
  have g2 : (pT q).length ≤ LIM := by rw [pT_len]; decide
  unfold dFs
  simp only [jsGo, f1, bind_some', em_app, l1, if_true, dC_ap, g1, f2, pT_app, g2, Option.map_some]
theorem pairs_comp2 (qs : List (Nat × Nat)) (hq : ∀ q ∈ qs, q.1 < 10 ∧ q.2 < 10) (hl : qs.length ≤ 100) (w0 w1 a b : S) (io : IO) :
    lcGo none (.many [2, 3]) dYes (dOp addD (dOp addD (dOp idxD (dC (.str "abcdefghij")) (dVar 2)) (dC (.str ">"))) (dOp idxD (dC (.str "abcdefghij")) (dVar 3))) [w0, w1, a, b] (qs.map pD) 0 io = some ((qs.map pT).map .str, io) := by
  rw [List.map_map]
  refine lcGo_mapL rfl pD (PyData.str ∘ pT) qs 0 (by unfold LIM; omega) fun q hm => ⟨[w0, w1, .dat (nD q.1), .dat (nD q.2)], .dat (.str (pT q)), rfl, ?_, rfl⟩
  have h := hq q hm
  have e1 := r_letter q.1 h.1
  have e2 := r_letter q.2 h.2
  have a1 : addD (.str (ltr q.1)) (.str ">") = some (.dat (.str (ltr q.1 ++ ">"))) := by rw [addD_str, if_pos (by rw [ltr_len, gt_len]; decide)]
  have a2 : addD (.str (ltr q.1 ++ ">")) (.str (ltr q.2)) = some (.dat (.str (pT q))) := by rw [addD_str, if_pos (by rw [app_len, ltr_len, ltr_len, gt_len]; decide), pT_app]
  simp [-idxD_str, e1, e2, -addD_str, a1, a2]
theorem shaped_tup {ds : List D} (h : leafs ds = true) (hd : PyData.depthAll ds ≤ 63) : SeqAt.shaped (.tuple ds) = true := by
  unfold SeqAt.shaped
  rw [PyData.canLay0, (leafs_lay h).1, PyData.depth, decide_eq_true (by omega)]; rfl
theorem shaped_lst {ds : List D} (h : leafs ds = true) (hd : PyData.depthAll ds ≤ 63) : SeqAt.shaped (.list ds) = true := by
  unfold SeqAt.shaped
  rw [PyData.canLay0, (leafs_lay h).1, PyData.depth, decide_eq_true (by omega)]; rfl
theorem eq_nilL {ds : List D} (h : leafs ds = true) (hd : PyData.depthAll ds ≤ 63) : eqD (.list ds) (.list []) = some (decide (ds = [])) := by
  have h2 : SeqAt.shaped (.list []) = true := by decide
  unfold eqD
  simp only [eqS, shaped_lst h hd, h2, Bool.and_self, if_true]
  cases ds with
  | nil => simp [PyData.eqv, PyData.eqvAll]
  | cons a l => simp [PyData.eqv, PyData.eqvAll]
theorem eq_nilT {ds : List D} (h : leafs ds = true) (hd : PyData.depthAll ds ≤ 63) : eqD (.tuple ds) (.tuple []) = some (decide (ds = [])) := by
  have h2 : SeqAt.shaped (.tuple []) = true := by decide
  unfold eqD
  simp only [eqS, shaped_tup h hd, h2, Bool.and_self, if_true]
  cases ds with
  | nil => simp [PyData.eqv, PyData.eqvAll]
  | cons a l => simp [PyData.eqv, PyData.eqvAll]
theorem add1 {w x : Str} (hw : w.length ≤ 10) (hx : x.length ≤ 2010) : addD (.str (w ++ " ")) (.str x) = some (.dat (.str (w ++ " " ++ x))) := by
  rw [addD_str, if_pos]
  rw [app_len, sp_len]
  unfold LIM
  omega
theorem add0 {w : Str} (hw : w.length ≤ 10) : addD (.str w) (.str " ") = some (.dat (.str (w ++ " "))) := by
  rw [addD_str, if_pos]
  rw [sp_len]
  unfold LIM
  omega
theorem lists_text {qs : List (Nat × Nat)} {ps : List Nat} (h : GOk ps (.g2 qs)) (hn : qs ≠ []) : joinD " " [.list ((("swap" : Str) :: qs.map pT).map .str)] = some (.dat (.str (gText (.g2 qs)))) := by
  have e : gParts (.g2 qs) = ("swap" : Str) :: qs.map pT := by
    show ("swap" : Str) :: Lp qs = _
    unfold Lp
    rw [if_neg hn]
  have := (gText_len h).2
  rw [e] at this
  rw [joinD_lst, strsOf_strs, bind_some', if_pos this]
  unfold gText
  rw [e]
theorem swap0 : gText (.g2 []) = "swap -" := by decide +kernel
theorem add_swap {qs : List (Nat × Nat)} (hl : qs.length ≤ 10) : addD (.list [.str "swap"]) (.list ((qs.map pT).map .str)) = some (.tmp ((("swap" : Str) :: qs.map pT).map .str)) := by
  rw [addD_lst, if_pos (by simp; unfold LIM; omega)]; rfl
theorem r_lettersL (ws : List Nat) (hw : ∀ w ∈ ws, w < 10) (hl : ws.length ≤ 1000) : run__law_letters [.list (ws.map nD)] = some (.dat (.str (lets ws))) := by
  have e := fun sl => lets_comp ws hw hl sl [] 1
  refine runD_rt rfl ?_ rfl
  unfold d__law_letters
  obtain ⟨q1, q2, _⟩ := (nD_each hw).all
  have eq := eq_nilL q1 (by omega)
  have es : slots 2 ([.list (ws.map nD)].map .dat) = [.dat (.list (ws.map nD)), .un] := rfl
  rw [es]
  by_cases h0 : ws = []
  · subst h0
    refine Rt_seq1 ?_
    have eq' : eqD (.list []) (.list []) = some true := by rw [List.map_nil] at eq; rw [eq]; rfl
    simp [lets, eq']
  · have hm : ws.map nD ≠ [] := by simpa using h0
    rw [decide_eq_false hm] at eq
    have e1 := e [.dat (.list (ws.map nD)), .un] (by simp)
    have e4 : joinD " " [.list ((ws.map ltr).map .str)] = some (.dat (.str (lets ws))) := by
      rw [joinD_lst, strsOf_strs, bind_some', if_pos (join_small _ hl)]
      unfold lets
      rw [if_neg h0]
    generalize ws.map nD = Z at *
    refine Rt_seq (P0 := fun sl io => sl = [.dat (.list Z), .un] ∧ io = []) ?_ ?_
    · simp [eq]
    rintro sl io ⟨rfl, rfl⟩
    simp [e1, e4, -joinD_lst, -List.map_map]
theorem same_comp (ws : List Nat) (hl : ws.length ≤ 1000) (sl : List S) (io : IO) (k : Nat) (hk : k < sl.length) : lcGo none (.one k) dYes (dVar k) sl (ws.map nD) 0 io = some (ws.map nD, io) :=
  lcGo_mapL rfl nD nD ws 0 (by unfold LIM; omega) fun w _ => ⟨_, .dat (nD w), rfl, by simp [List.getElem?_set_self hk], rfl⟩
theorem r_door_words (ps : List Nat) (ht : TreeOk ps) (g : Gate) (hg : GOk ps g) : run__law_door_words [gD g] = some (.dat (.str (gText g))) := by
  have hp9 := ht.1
  refine runD_rt rfl ?_ rfl
  unfold d__law_door_words
  have es : slots 4 ([gD g].map .dat) = [.dat (gD g), .un, .un, .un] := rfl
  rw [es]
  cases g with
  | g1 w ws =>
    have hw := word_mem _ (word1 hg)
    have i0 : idxD (gD (.g1 w ws)) (.int 0) = some (.dat (.str w)) := rfl
    have i1 : idxD (gD (.g1 w ws)) (.int 1) = some (.dat (dW ws)) := rfl
    have i2 : itemsOf [] (.dat (dW ws)) = some (ws.map nD, none) := rfl
    have e := r_lettersL ws (fun x hx => hg.1.lt ht hx) hg.1.2
    have e1 := same_comp ws hg.1.2 [.dat (gD (.g1 w ws)), .un, .un, .un] [] 1 (by simp)
    have := lets_len ws
    have := hg.2.1
    have a0 := add0 (w := w) (by omega)
    have a1 := add1 (w := w) (x := lets ws) (by omega) (by omega)
    refine Rt_seq1 ?_
    rw [gText1]
    simp [i0, i1, i2, hw.2.2.2.1, e1, e, -addD_str, a0, a1]
  | g2 qs =>
    have i0 : idxD (gD (.g2 qs)) (.int 0) = some (.dat (.str "swap")) := rfl
    have i1 : idxD (gD (.g2 qs)) (.int 1) = some (.dat (dP qs)) := rfl
    have i2 : itemsOf [] (.dat (dP qs)) = some (qs.map pD, none) := rfl
    obtain ⟨q1, q2, _⟩ := (pD_each (qs := qs) fun q hq => by have := hg.1 q hq; omega).all
    have eq : eqD (dP qs) (.tuple []) = some (decide (qs.map pD = [])) := eq_nilT q1 (by omega)
    by_cases hn : qs = []
    · subst hn
      refine Rt_seq1 ?_
      have e := r_lettersL [] (fun x hx => nomatch hx) (by simp)
      have e1 := same_comp [] (by simp) [.dat (gD (.g2 [])), .un, .un, .un] [] 1 (by simp)
      rw [List.map_nil] at e e1
      have a0 := add0 (w := "swap") (by rw [swap_len]; omega)
      have a1 := add1 (w := "swap") (x := "-") (by rw [swap_len]; omega) (by rw [dash_len]; omega)
      have l0 : lets [] = "-" := rfl
      have sw : ("swap" : Str) ++ " " ++ "-" = "swap -" := by decide +kernel
      rw [l0] at e
      simp [i0, i1, i2, eq, e, e1, -addD_str, a0, a1, sw, swap0]
    · have hm : qs.map pD ≠ [] := by simpa using hn
      rw [decide_eq_false hm] at eq
      refine Rt_seq (P0 := fun sl io => sl = [.dat (gD (.g2 qs)), .un, .un, .un] ∧ io = []) ?_ ?_
      · simp [i0, i1, eq]
      rintro sl io ⟨rfl, rfl⟩
      have e1 := pairs_comp2 qs (fun q hq => by have := hg.1 q hq; omega) (by have := hg.2.1; omega) (.dat (gD (.g2 qs))) .un .un .un []
      have e2 := add_swap hg.2.1
      have e3 := lists_text hg hn
      simp [i1, i2, e1, show 1 ≤ LIM by decide, -addD_lst, e2, -joinD_lst, e3, -List.map_cons, -List.map_map]
def Up2 (lo m : Nat) (ws : List Nat) : Prop := Asc ws ∧ (∀ w ∈ ws, lo ≤ w ∧ w < lo + m) ∧ ws.length ≤ m
theorem rng_cons (lo m : Nat) : rngItems (lo : Int) (m + 1) = .int (lo : Int) :: rngItems ((lo + 1 : Nat) : Int) m := by
  unfold rngItems
  rw [List.range_succ_eq_map, List.map_cons, List.map_map]
  congr 1
  refine List.map_congr_left fun i _ => ?_
  show PyData.int _ = PyData.int _
  congr 1
  simp
  omega
theorem asc_cons {a : Nat} {ws : List Nat} (h : Asc ws) (h0 : ∀ w ∈ ws, a < w) : Asc (a :: ws) := by
  intro i x y hx hy
  cases i with
  | zero =>
    cases hx
    rw [List.getElem?_cons_succ] at hy
    exact h0 y (List.mem_of_getElem? hy)
  | succ j =>
    rw [List.getElem?_cons_succ] at hx hy
    exact h j x y hx hy
theorem some_spots {w2 s4 : S} {share : Int} (ps : List Nat) : ∀ (m lo cnt n : Nat) (s5 : S) (js : List D), JarOk n js → n + m ≤ 100000 → cnt + m ≤ 50 →
    ∃ ws js', lcGo none (.one 5) (dTst (dOp ltD (dFnJ run__law_pull (dCons (dVar 0) (dCons (dC (.int 4)) (dNil)))) (dVar 3))) (dVar 5) [.ref 0, .dat (dT ps), w2, .dat (.int share), s4, s5] (rngItems (lo : Int) m) cnt [js] = some (ws.map nD, [js']) ∧ Up2 lo m ws ∧ JarOk (n + m) js'
  | 0, lo, cnt, n, s5, js, hj, _, _ => ⟨[], js, rfl, ⟨fun i a b h => by simp at h, fun w h => (nomatch h), by simp⟩, hj⟩
  | m + 1, lo, cnt, n, s5, js, hj, hn, hc => by
    obtain ⟨d, js1, e1, a1, b1, j1⟩ := pull_ex (sl := [.ref 0, .dat (dT ps), w2, .dat (.int share), s4, .dat (.int (lo : Int))]) (X := dC (.int 4)) (rest := []) rfl rfl hj (by omega) (by decide) (by decide)
    have et : dTst (dOp ltD (dFnJ run__law_pull (dCons (dVar 0) (dCons (dC (.int 4)) (dNil)))) (dVar 3)) [.ref 0, .dat (dT ps), w2, .dat (.int share), s4, .dat (.int (lo : Int))] [js] = some (decide (d < share), [js1]) := by
      rw [dTst_ap, dOp_ap, e1]
      simp
    obtain ⟨ws, js2, e2, ⟨u1, u2, u3⟩, j2⟩ := some_spots (w2 := w2) (s4 := s4) (share := share) ps m (lo + 1) (cnt + 1) (n + 1) s5 js1 j1 (by omega) (by omega)
    have set5 : ∀ s, ([.ref 0, .dat (dT ps), w2, .dat (.int share), s4, s5] : List S).set 5 s = [.ref 0, .dat (dT ps), w2, .dat (.int share), s4, s] := fun _ => rfl
    rw [rng_cons]
    unfold lcGo
    rw [if_pos ⟨rfl, by unfold LIM; omega⟩]
    simp only [tgGo_one, bind_some', set5]
    rw [et]
    simp only [bind_some']
    by_cases hlt : d < share
    · rw [decide_eq_true hlt]
      simp only [if_true]
      have ev : dVar 5 [.ref 0, .dat (dT ps), w2, .dat (.int share), s4, .dat (.int (lo : Int))] [js1] = some (.dat (.int (lo : Int)), [js1]) := rfl
      rw [ev]
      simp only [bind_some', lcItem_dat, im_int, if_true, e2, Option.map_some]
      exact ⟨lo :: ws, js2, rfl, ⟨asc_cons u1 fun w hw => by have := u2 w hw; omega, fun w hw => by
        rcases List.mem_cons.mp hw with rfl | hw
        · omega
        · have := u2 w hw; omega, by rw [List.length_cons]; omega⟩, j2.mono (by omega)⟩
    · rw [decide_eq_false hlt]
      simp only [Bool.false_eq_true, if_false, e2]
      exact ⟨ws, js2, rfl, ⟨u1, fun w hw => by have := u2 w hw; omega, by omega⟩, j2.mono (by omega)⟩
theorem some_pairs {w2 s3 s4 : S} (ps : List Nat) (hp : ps.length ≤ 9) : ∀ (ws : List Nat) (cnt n : Nat) (s5 : S) (js : List D), JarOk n js → n + ws.length ≤ 100000 → cnt + ws.length ≤ 50 →
    ∃ (qs : List (Nat × Nat)) (js' : List D), lcGo none (.one 5) dYes (dTup (dCons (dVar 5) (dCons (dFnJ run__law_pull (dCons (dVar 0) (dCons (dCall lenD (dCons (dVar 1) (dNil))) (dNil)))) (dNil)))) [.ref 0, .dat (dT ps), w2, s3, s4, s5] (ws.map nD) cnt [js] = some (qs.map pD, [js']) ∧ qs.map (·.1) = ws ∧ (∀ q ∈ qs, q.2 < ps.length + 1) ∧ JarOk (n + ws.length) js'
  | [], cnt, n, s5, js, hj, _, _ => ⟨[], js, rfl, rfl, fun q h => (nomatch h), hj⟩
  | w :: ws, cnt, n, s5, js, hj, hn, hc => by
    rw [List.length_cons] at hn hc
    obtain ⟨d, js1, e1, a1, b1, j1⟩ := pull_ex (sl := [.ref 0, .dat (dT ps), w2, s3, s4, .dat (nD w)]) (X := dCall lenD (dCons (dVar 1) (dNil))) (rest := []) (size := (ps.length : Int) + 1) rfl (by simp [-lenD_tup, lenT]) hj (by omega) (by omega) (by omega)
    obtain ⟨x, rfl⟩ : ∃ x : Nat, d = (x : Int) := ⟨d.toNat, by omega⟩
    obtain ⟨qs, js2, e2, u1, u2, j2⟩ := some_pairs (w2 := w2) (s3 := s3) (s4 := s4) ps hp ws (cnt + 1) (n + 1) s5 js1 j1 (by omega) (by omega)
    have set5 : ∀ s, ([.ref 0, .dat (dT ps), w2, s3, s4, s5] : List S).set 5 s = [.ref 0, .dat (dT ps), w2, s3, s4, s] := fun _ => rfl
    have ev : dTup (dCons (dVar 5) (dCons (dFnJ run__law_pull (dCons (dVar 0) (dCons (dCall lenD (dCons (dVar 1) (dNil))) (dNil)))) (dNil))) [.ref 0, .dat (dT ps), w2, s3, s4, .dat (nD w)] [js] = some (.dat (pD (w, x)), [js1]) := by
      rw [dTup_ap, dCons_ap, dVar_ap]
      simp only [List.getElem?_cons_succ, List.getElem?_cons_zero, varK_dat, bind_some', consK_ap]
      rw [dCons_ap, e1]
      simp [show 2 ≤ LIM by decide, pD, nD]
    rw [List.map_cons]
    unfold lcGo
    rw [if_pos ⟨rfl, by unfold LIM; omega⟩]
    simp only [tgGo_one, bind_some', set5, dYes_ap, if_true]
    rw [ev]
    simp only [bind_some', lcItem_dat, im_pD, if_true, e2, Option.map_some]
    exact ⟨(w, x) :: qs, js2, rfl, by rw [List.map_cons, u1], fun q hq => by
      rcases List.mem_cons.mp hq with rfl | hq
      · show x < _; omega
      · exact u2 q hq, by rw [List.length_cons]; exact j2.mono (by omega)⟩
theorem r_some_door {n : Nat} {js : List D} (h : JarOk n js) (hn : n ≤ 900) (ps : List Nat) (hp : TreeOk ps) : ∃ g js', run__law_some_door js [dT ps] = some (.dat (gD g), js') ∧ GOk ps g ∧ JarOk (n + 190) js' := by
  have hp9 := hp.1
  suffices hs : ∃ g js', Rt (d__law_some_door (slots 6 (.ref 0 :: ([dT ps] : List D).map .dat)) [js]) (.dat (gD g)) (fun io => io[0]? = some js') ∧ GOk ps g ∧ JarOk (n + 190) js' by
    obtain ⟨g, js', h1, h2, h3⟩ := hs
    exact ⟨g, js', runJ_rt rfl h1 (im_gD g), h2, h3⟩
  have es : slots 6 (.ref 0 :: ([dT ps] : List D).map .dat) = [.ref 0, .dat (dT ps), .un, .un, .un, .un] := rfl
  rw [es]
  obtain ⟨d1, js1, e1, a1, b1, j1⟩ := pull_ex (sl := [.ref 0, .dat (dT ps), .un, .un, .un, .un]) (X := dC (.int 5)) (rest := []) rfl rfl h (by omega) (by decide) (by decide)
  obtain ⟨w, hw, hw'⟩ : ∃ w : Str, atI ([.str "only", .str "lift", .str "swap", .str "head", .str "pad"] : List D) d1 = some (.str w) ∧ w ∈ ([("only" : Str), "lift", "swap", "head", "pad"] : List Str) := by
    have : d1 = 0 ∨ d1 = 1 ∨ d1 = 2 ∨ d1 = 3 ∨ d1 = 4 := by omega
    rcases this with rfl | rfl | rfl | rfl | rfl <;> exact ⟨_, rfl, by simp⟩
  obtain ⟨d2, js2, e2, a2, b2, j2⟩ := pull_ex (sl := [.ref 0, .dat (dT ps), .dat (.str w), .un, .un, .un]) (X := dC (.int 5)) (rest := []) rfl rfl j1 (by omega) (by decide) (by decide)
  have hsh : atI ([.int 0, .int 1, .int 2, .int 3, .int 4] : List D) d2 = some (.int d2) := by
    have : d2 = 0 ∨ d2 = 1 ∨ d2 = 2 ∨ d2 = 3 ∨ d2 = 4 := by omega
    rcases this with rfl | rfl | rfl | rfl | rfl <;> rfl
  have h5 : 5 ≤ LIM := by decide
  have st1 : ∀ q : DS, dSeq (dSet 2 (dOp idxD (dLst (dCons (dC (.str "only")) (dCons (dC (.str "lift")) (dCons (dC (.str "swap")) (dCons (dC (.str "head")) (dCons (dC (.str "pad")) (dNil))))))) (dFnJ run__law_pull (dCons (dVar 0) (dCons (dC (.int 5)) (dNil)))))) q [.ref 0, .dat (dT ps), .un, .un, .un, .un] [js] = q [.ref 0, .dat (dT ps), .dat (.str w), .un, .un, .un] [js1] := by
    intro q
    have eL : dLst (dCons (dC (.str "only")) (dCons (dC (.str "lift")) (dCons (dC (.str "swap")) (dCons (dC (.str "head")) (dCons (dC (.str "pad")) (dNil)))))) [.ref 0, .dat (dT ps), .un, .un, .un, .un] [js] = some (.tmp [.str "only", .str "lift", .str "swap", .str "head", .str "pad"], [js]) := by simp [h5]
    refine seq_nx ?_
    rw [dSet_ap, dOp_ap, eL, bind_some', opK_ap, e1]
    simp [hw]
  have st2 : ∀ q : DS, dSeq (dSet 3 (dOp idxD (dLst (dCons (dC (.int 0)) (dCons (dC (.int 1)) (dCons (dC (.int 2)) (dCons (dC (.int 3)) (dCons (dC (.int 4)) (dNil))))))) (dFnJ run__law_pull (dCons (dVar 0) (dCons (dC (.int 5)) (dNil)))))) q [.ref 0, .dat (dT ps), .dat (.str w), .un, .un, .un] [js1] = q [.ref 0, .dat (dT ps), .dat (.str w), .dat (.int d2), .un, .un] [js2] := by
    intro q
    have eL : dLst (dCons (dC (.int 0)) (dCons (dC (.int 1)) (dCons (dC (.int 2)) (dCons (dC (.int 3)) (dCons (dC (.int 4)) (dNil)))))) [.ref 0, .dat (dT ps), .dat (.str w), .un, .un, .un] [js1] = some (.tmp [.int 0, .int 1, .int 2, .int 3, .int 4], [js1]) := by simp [h5]
    refine seq_nx ?_
    rw [dSet_ap, dOp_ap, eL, bind_some', opK_ap, e2]
    simp [hsh]
  unfold d__law_some_door
  rw [st1, st2]
  have h2L : 2 ≤ LIM := by decide
  by_cases hhp : w = "head" ∨ w = "pad"
  · obtain ⟨r, hr, hr0, hr1⟩ : ∃ r : Int, atI ([.int 0, .int 1, .int 3, .int 6, .int 39] : List D) d2 = some (.int r) ∧ 0 ≤ r ∧ r ≤ 40 := by
      have : d2 = 0 ∨ d2 = 1 ∨ d2 = 2 ∨ d2 = 3 ∨ d2 = 4 := by omega
      rcases this with rfl | rfl | rfl | rfl | rfl <;> exact ⟨_, rfl, by decide, by decide⟩
    obtain ⟨ws, js3, e3, hw3, hl3, j3⟩ := r_some_asksR j2 (by omega) ps hp r hr0 hr1
    refine ⟨.g1 w ws, js3, Rt_seq1 ?_, ⟨hw3, hl3, .inr hhp⟩, j3.mono (by omega)⟩
    have n1 : ¬ (("pad" : Str) = "head") := by decide +kernel
    have et : dOrT (dTst (dOp eqO (dVar 2) (dC (.str "head")))) (dTst (dOp eqO (dVar 2) (dC (.str "pad")))) [.ref 0, .dat (dT ps), .dat (.str w), .dat (.int d2), .un, .un] [js2] = some (true, [js2]) := by
      rcases hhp with rfl | rfl <;> simp [n1]
    rw [dIf_ap, et]
    simp [h5, hr, e3, h2L, gD]
  · have nh : w ≠ "head" := fun z => hhp (.inl z)
    have np : w ≠ "pad" := fun z => hhp (.inr z)
    obtain ⟨ws, js3, e3, ⟨u1, u2, u3⟩, j3⟩ := some_spots (w2 := .dat (.str w)) (s4 := .un) (share := d2) ps (ps.length + 1) 0 0 (n + 1 + 1) .un js2 j2 (by omega) (by omega)
    have hr := fun io => rng1K_ap (io := io) (j := (ps.length : Int) + 1) (n := ps.length + 1) (by omega) (by omega)
    have hww : ∀ x ∈ ws, x < ps.length + 1 := fun x hx => by have := u2 x hx; omega
    have st3 : dIf (dOrT (dTst (dOp eqO (dVar 2) (dC (.str "head")))) (dTst (dOp eqO (dVar 2) (dC (.str "pad"))))) (dRet (dTup (dCons (dVar 2) (dCons (dFnJ run__law_some_asks (dCons (dVar 0) (dCons (dVar 1) (dCons (dOp idxD (dLst (dCons (dC (.int 0)) (dCons (dC (.int 1)) (dCons (dC (.int 3)) (dCons (dC (.int 6)) (dCons (dC (.int 39)) (dNil))))))) (dVar 3)) (dNil))))) (dNil))))) (dNext) [.ref 0, .dat (dT ps), .dat (.str w), .dat (.int d2), .un, .un] [js2] = some (.nx [.ref 0, .dat (dT ps), .dat (.str w), .dat (.int d2), .un, .un] [js2]) := by
      simp [nh, np]
    rw [seq_nx st3]
    have e3' : lcGo none (.one 5) (dTst (dOp ltD (dFnJ run__law_pull (dCons (dVar 0) (dCons (dC (.int 4)) (dNil)))) (dVar 3))) (dVar 5) [.ref 0, .dat (dT ps), .dat (.str w), .dat (.int d2), .un, .un] (rngItems 0 (ps.length + 1)) 0 [js2] = some (ws.map nD, [js3]) := e3
    have st4 : dSet 4 (dLc (dItR1 (dCons (dCall lenD (dCons (dVar 1) (dNil))) (dNil))) (.one 5) (dTst (dOp ltD (dFnJ run__law_pull (dCons (dVar 0) (dCons (dC (.int 4)) (dNil)))) (dVar 3))) (dVar 5) [5]) [.ref 0, .dat (dT ps), .dat (.str w), .dat (.int d2), .un, .un] [js2] = some (.nx [.ref 0, .dat (dT ps), .dat (.str w), .dat (.int d2), .dat (.list (ws.map nD)), .un] [js3]) := by
      simp [-lenD_tup, lenT, hr, e3']
    rw [seq_nx st4]
    by_cases hsw : w = "swap"
    · subst hsw
      obtain ⟨qs, js4, e4, v1, v2, j4⟩ := some_pairs (w2 := .dat (.str "swap")) (s3 := .dat (.int d2)) (s4 := .dat (.list (ws.map nD))) ps hp9 ws 0 _ .un js3 j3 (by omega) (by omega)
      have hql : qs.length = ws.length := by rw [← v1, List.length_map]
      refine ⟨.g2 qs, js4, Rt_seq1 ?_, ⟨fun q hq => ⟨hww q.1 (by rw [← v1]; exact List.mem_map_of_mem hq), v2 q hq⟩, by omega, by rw [v1]; exact u1⟩, j4.mono (by omega)⟩
      generalize ws.map nD = Z at *
      simp [e4, h2L, gD, dP]
    · refine ⟨.g1 w ws, js3, ?_, ⟨⟨hww, by omega⟩, by omega, .inl ⟨?_, u1⟩⟩, j3.mono (by omega)⟩
      · refine Rt_seq (P0 := fun sl io => sl = [.ref 0, .dat (dT ps), .dat (.str w), .dat (.int d2), .dat (.list (ws.map nD)), .un] ∧ io = [js3]) ?_ ?_
        · simp [hsw]
        rintro sl io ⟨rfl, rfl⟩
        simp [h2L, gD, dW]
      · simp at hw'
        rcases hw' with h | h | h | h | h
        · exact .inl h
        · exact .inr h
        · exact absurd h hsw
        · exact absurd h nh
        · exact absurd h np
theorem cut_ints (ns : List Int) (n : Nat) : cutD (ns.map .int) none (some (n : Int)) = (ns.take n).map .int := by
  unfold cutD
  rw [HT.sIx_none, HT.sIx_nat, List.drop_zero, List.length_map, Nat.sub_zero, ← List.map_take]
  congr 1
  rcases Nat.le_total n ns.length with h | h
  · rw [Nat.min_eq_left h]
  · rw [Nat.min_eq_right h, List.take_of_length_le (Nat.le_refl _), List.take_of_length_le h]
end K75
set_option Elab.async false
set_option linter.all false
set_option maxRecDepth 100000
set_option maxHeartbeats 1000000
namespace K75
open PySem L2 DD TL StrLaws
/-! letters and signs of any word -/
def oN : Option Nat → D
  | none => .none
  | some n => nD n
theorem im_oN (x : Option Nat) : im (oN x) = true := by cases x <;> rfl
@[simp] theorem isNon_oN (x : Option Nat) : isNonD (oN x) = x.isNone := by cases x <;> rfl
@[simp] theorem isNon_nD (x : Nat) : isNonD (nD x) = false := rfl
def lt? (x : Str) (c : Nat) : Option Nat := match tl x with
  | [a] => if 97 ≤ a ∧ a < 97 + c then some (a - 97) else none
  | _ => none
theorem lt_some {x : Str} {c w : Nat} (h : lt? x c = some w) : w < c ∧ x = ltr w := by
  unfold lt? at h
  split at h
  · rename_i a ha
    split at h
    · rename_i hh
      cases h
      refine ⟨by omega, ext_tl ?_⟩
      rw [ha, ltr_tl, show 97 + (a - 97) = a by omega]
    · cases h
  · cases h
theorem lt_ltr {c w : Nat} (h : w < c) : lt? (ltr w) c = some w := by
  unfold lt?
  rw [ltr_tl]
  simp only []
  rw [if_pos (by omega), show 97 + w - 97 = w by omega]
theorem abc_cut : ∀ c : Nat, c < 11 → tl (cutS "abcdefghij" none (some (c : Int))) = (List.range c).map (97 + ·) := by decide +kernel
theorem in_cut (a c : Nat) (hc : c < 11) : inD (.str ⟨#[a]⟩) (.str (cutS "abcdefghij" none (some (c : Int)))) = some (decide (97 ≤ a ∧ a < 97 + c)) := by
  show some (decide (a ∈ tl (cutS "abcdefghij" none (some (c : Int))))) = _
  rw [abc_cut c hc]
  congr 1
  rw [decide_eq_decide]
  simp only [List.mem_map, List.mem_range]
  constructor
  · rintro ⟨w, h, rfl⟩; omega
  · rintro ⟨h1, h2⟩; exact ⟨a - 97, by omega, by omega⟩
theorem one_tl {x : Str} (h : x.length = 1) : ∃ a, x = ⟨#[a]⟩ := by
  obtain ⟨a, ha⟩ : ∃ a, tl x = [a] := List.length_eq_one_iff.mp (by rw [← len_tl]; exact h)
  exact ⟨a, ext_tl ha⟩
theorem lt_none {x : Str} {c : Nat} (h : x.length ≠ 1) : lt? x c = none := by
  unfold lt?
  split
  · rename_i a ha
    exact absurd (by rw [len_tl, ha]; rfl) h
  · rfl
theorem lt_one (a c : Nat) : lt? ⟨#[a]⟩ c = if 97 ≤ a ∧ a < 97 + c then some (a - 97) else none := rfl
theorem one_len (a : Nat) : (⟨#[a]⟩ : Str).length = 1 := rfl
theorem lim1 : 1 ≤ LIM := by decide
theorem r_locale_read (x : Str) (c : Nat) (hc : c < 11) (hx : x.length ≤ LIM) : run_locale_read [.str x, nD c] = some (.dat (oN (lt? x c))) := by
  refine runD_rt rfl ?_ (im_oN _)
  unfold d_locale_read
  by_cases h1 : x.length = 1
  · obtain ⟨a, rfl⟩ := one_tl h1
    have h2 := in_cut a c hc
    rw [lt_one]
    by_cases hh : 97 ≤ a ∧ a < 97 + c
    · have e2 := ix_abc (a - 97) (by omega)
      rw [show ltr (a - 97) = ⟨#[a]⟩ by unfold ltr; rw [show 97 + (a - 97) = a by omega]] at e2
      rw [if_pos hh]
      simp [slots, nD, abc_len, h2, hh, one_len, lim1, e2, oN]
    · rw [if_neg hh]
      simp [slots, nD, abc_len, h2, hh, one_len, lim1, oN]
  · rw [lt_none h1]
    have h3 : ¬ ((x.length : Int) = 1) := by omega
    simp [slots, nD, hx, h3, oN]
theorem r_lt (x : Str) (c : Nat) (hc : c < 11) (hx : x.length ≤ LIM) : run__law_letter [.str x, nD c] = some (.dat (oN (lt? x c))) := by
  refine runD_rt rfl ?_ (im_oN _)
  unfold d__law_letter
  by_cases h1 : x.length = 1
  · obtain ⟨a, rfl⟩ := one_tl h1
    have h2 := in_cut a c hc
    rw [lt_one]
    by_cases hh : 97 ≤ a ∧ a < 97 + c
    · have e2 := ix_abc (a - 97) (by omega)
      rw [show ltr (a - 97) = ⟨#[a]⟩ by unfold ltr; rw [show 97 + (a - 97) = a by omega]] at e2
      rw [if_pos hh]
      simp [slots, nD, abc_len, h2, hh, one_len, lim1, e2, oN]
    · rw [if_neg hh]
      simp [slots, nD, abc_len, h2, hh, one_len, lim1, oN]
  · rw [lt_none h1]
    have h3 : ¬ ((x.length : Int) = 1) := by omega
    simp [slots, nD, hx, h3, oN]
/-! what is read: a value or a place -/
abbrev Rd := Except Nat
def ew (i : Nat) : EX := ⟨"InvalidWords", some ("place", nD i)⟩
def fo : Rd D → FO
  | .ok d => .ok (.dat d)
  | .error i => .ex (ew i)
def pr : Rd D → D
  | .ok d => .tuple [d, .none]
  | .error i => .tuple [.none, nD i]
def late (b : Bool) (f : List Nat) (w : Nat) : Bool := b && (match f.getLast? with | some l => decide (w ≤ l) | none => false)
def goL (c : Nat) (b : Bool) : List Str → Nat → List Nat → Rd (List Nat)
  | [], _, f => .ok f
  | x :: r, i, f => match lt? x c with
    | none => .error i
    | some w => if late b f w = true then .error i else goL c b r (i + 1) (f ++ [w])
def spots (c : Nat) (b : Bool) (first : Nat) : List Str → Rd (List Nat)
  | [] => .error first
  | x :: r => if x = "-" then (if r = [] then .ok [] else .error (first + 1)) else goL c b (x :: r) first []
theorem goL_ok {c : Nat} {b : Bool} : ∀ {r : List Str} {i : Nat} {f g : List Nat}, goL c b r i f = .ok g → g.length = f.length + r.length ∧ ∀ w ∈ g, w ∈ f ∨ w < c
  | [], i, f, g, h => by cases h; exact ⟨by simp, fun w hw => .inl hw⟩
  | x :: r, i, f, g, h => by
    unfold goL at h
    split at h
    · cases h
    · rename_i w hw
      split at h
      · cases h
      · obtain ⟨h1, h2⟩ := goL_ok h
        refine ⟨by rw [h1]; simp; omega, fun v hv => ?_⟩
        rcases h2 v hv with h3 | h3
        · rcases List.mem_append.mp h3 with h4 | h4
          · exact .inl h4
          · rw [List.mem_singleton] at h4; subst h4; exact .inr (lt_some hw).1
        · exact .inr h3
theorem spots_ok {c : Nat} {b : Bool} {first : Nat} {l : List Str} {g : List Nat} (h : spots c b first l = .ok g) : g.length ≤ l.length ∧ ∀ w ∈ g, w < c := by
  unfold spots at h
  split at h
  · cases h
  · split at h
    · split at h
      · cases h; exact ⟨by simp, by simp⟩
      · cases h
    · obtain ⟨h1, h2⟩ := goL_ok h
      exact ⟨by rw [h1]; simp, fun w hw => (h2 w hw).resolve_left (by simp)⟩
end K75
set_option Elab.async false
set_option linter.all false
set_option maxRecDepth 100000
set_option maxHeartbeats 1000000
namespace K75
open PySem L2 DD TL StrLaws
def sL (L : List Str) : D := .list (L.map .str)
theorem at_drop {L r : List Str} {i : Nat} {x : Str} (h : L.drop i = x :: r) : atI (L.map PyData.str) (i : Int) = some (.str x) := by
  refine atI_nat ?_
  rw [List.getElem?_map, ← List.head?_drop, h]; rfl
theorem drop_next {L r : List Str} {i : Nat} {x : Str} (h : L.drop i = x :: r) : L.drop (i + 1) = r := by
  rw [← List.drop_drop, h]; rfl
theorem drop_len {L r : List Str} {i : Nat} (h : L.drop i = r) (hi : i ≤ L.length) : L.length = i + r.length := by
  rw [← h, List.length_drop]; omega
theorem drop_mem {L r : List Str} {i : Nat} {x : Str} (h : L.drop i = x :: r) : x ∈ L := List.mem_of_mem_drop (i := i) (by rw [h]; simp)
theorem lay_nD : ∀ l : List Nat, PyData.canLayAll0 (l.map nD) = true ∧ PyData.depthAll (l.map nD) = 0
  | [] => ⟨rfl, by simp only [List.map_nil, PyData.depthAll]⟩
  | a :: l => ⟨by rw [List.map_cons, PyData.canLayAll0, (lay_nD l).1]; rfl, by rw [List.map_cons, PyData.depthAll, (lay_nD l).2]; simp only [nD, PyData.depth]; rfl⟩
theorem eq_nD0 (f : List Nat) : eqD (.list (f.map nD)) (.list []) = some (decide (f = [])) := by
  have h1 : SeqAt.shaped (.list (f.map nD)) = true := by
    unfold SeqAt.shaped
    rw [PyData.canLay0, (lay_nD _).1, PyData.depth, (lay_nD _).2]; rfl
  have h2 : SeqAt.shaped (.list []) = true := by decide
  unfold eqD
  cases f with
  | nil => decide +kernel
  | cons a l =>
    simp only [eqS, h1, h2, Bool.and_self, if_true]
    simp only [List.map_cons, PyData.eqv, PyData.eqvAll]
    simp
theorem last_at {f : List Nat} {l : Nat} (h : f.getLast? = some l) : atI (f.map nD) (-1) = some (nD l) := by
  obtain ⟨g, rfl⟩ := List.getLast?_eq_some_iff.mp h
  rw [List.map_append]
  exact at_last _ _
theorem r_none_written (L : List Str) (first : Nat) (hf : first ≤ L.length) : run_none_written [sL L, nD first] = some (match L.drop first with
    | [] => .ex (ew L.length)
    | x :: r => if x = "-" then (if r = [] then .ok (.dat (.bool true)) else .ex (ew (first + 1))) else .ok (.dat (.bool false))) := by
  cases h : L.drop first with
  | nil =>
    have h1 := drop_len h hf
    have h2 : (L.length : Int) ≤ (first : Int) := by simp at h1; omega
    refine runX_ex rfl ?_
    unfold d_none_written
    simp [slots, sL, nD, h2, ew]
  | cons x r =>
    have h1 := drop_len h hf
    rw [List.length_cons] at h1
    have h2 : ¬ (L.length : Int) ≤ (first : Int) := by omega
    have h3 := at_drop h
    simp only []
    by_cases hx : x = "-"
    · rw [if_pos hx]
      by_cases hr : r = []
      · subst hr
        have h4 : ¬ ((first : Int) + 1 < (L.length : Int)) := by simp at h1; omega
        rw [if_pos rfl]
        refine runX_dat rfl ?_ rfl
        unfold d_none_written
        simp [slots, sL, nD, h2, h3, hx, h4]
      · rw [if_neg hr]
        have h5 : 0 < r.length := List.length_pos_iff.mpr hr
        have h4 : ((first : Int) + 1 < (L.length : Int)) := by omega
        refine runX_ex rfl ?_
        unfold d_none_written
        simp [slots, sL, nD, h2, h3, hx, h4, ew]
    · rw [if_neg hx]
      refine runX_dat rfl ?_ rfl
      unfold d_none_written
      simp [slots, sL, nD, h2, h3, hx]
def lrB : DXS := xSeq (xS (dSet 6 (dFn run_locale_read (dCons (dOp idxD (dVar 0) (dVar 5)) (dCons (dVar 2) (dNil)))))) (xSeq (xIf (xT (dOrT (dTst (dOp isD (dVar 6) (dC .none))) (dAndT (dTru (dVar 3)) (dAndT (dTst (dOp neO (dVar 4) (dLst (dNil)))) (dTst (dOp leD (dVar 6) (dOp idxD (dVar 4) (dNeg (dC (.int 1)))))))))) (xRaise "InvalidWords" "place" (dCons (dVar 5) (dNil))) (xS (dNext))) (xS (dApp 4 (dVar 6))))
theorem lr_turn {L : List Str} {c first i : Nat} {b : Bool} {x : Str} {r : List Str} {f : List Nat} {s6 : S} (h : L.drop i = x :: r) (hc : c < 11) (hx : x.length ≤ LIM) (hf : f.length < LIM) :
    ∃ s6', lrB [.dat (sL L), .dat (nD first), .dat (nD c), .dat (.bool b), .ref 0, .dat (nD i), s6] [f.map nD] = match lt? x c with
      | none => some (.ex (ew i) [.dat (sL L), .dat (nD first), .dat (nD c), .dat (.bool b), .ref 0, .dat (nD i), s6'] [f.map nD])
      | some w => if late b f w = true then some (.ex (ew i) [.dat (sL L), .dat (nD first), .dat (nD c), .dat (.bool b), .ref 0, .dat (nD i), s6'] [f.map nD]) else some (.r (.nx [.dat (sL L), .dat (nD first), .dat (nD c), .dat (.bool b), .ref 0, .dat (nD i), s6'] [(f ++ [w]).map nD])) := by
  refine ⟨.dat (oN (lt? x c)), ?_⟩
  have h3 := at_drop h
  have h4 : run_locale_read [.str x, .int (c : Int)] = some (.dat (oN (lt? x c))) := r_locale_read x c hc hx
  have h5 := eq_nD0 f
  unfold lrB late
  cases hw : lt? x c with
  | none =>
    rw [hw] at h4
    simp [sL, nD, h3, h4, oN, ew]
  | some w =>
    rw [hw] at h4
    cases b with
    | false => simp [sL, nD, h3, h4, oN, hf]
    | true =>
      cases hl : f.getLast? with
      | none =>
        obtain rfl : f = [] := List.getLast?_eq_none_iff.mp hl
        have h9 : 0 < LIM := by decide
        have h5 : eqD (.list []) (.list []) = some true := by decide +kernel
        simp [sL, nD, h3, h4, h5, oN, h9]
      | some l =>
        have h6 : atI (f.map nD) (-1) = some (.int (l : Int)) := last_at hl
        have h7 : ¬ f = [] := fun z => by subst z; cases hl
        by_cases hle : w ≤ l
        · have h8 : (w : Int) ≤ (l : Int) := by omega
          simp [sL, nD, h3, h4, h5, h6, oN, h7, h8, hle, ew]
        · have h8 : ¬ (w : Int) ≤ (l : Int) := by omega
          simp [sL, nD, h3, h4, h5, h6, oN, h7, h8, hle, hf]
end K75
set_option Elab.async false
set_option linter.all false
set_option maxRecDepth 100000
set_option maxHeartbeats 1000000
namespace K75
open PySem L2 DD TL StrLaws
/-- words that the readers take -/
def SgOk (x : Str) : Prop := x.cps.all (· < 0x110000) = true
def LOk (L : List Str) : Prop := (∀ x ∈ L, x.length < LIM ∧ SgOk x) ∧ L.length ≤ 10000
theorem i_succ (i : Nat) : ((i : Int) + 1) = ((i + 1 : Nat) : Int) := by omega
theorem lr_loop {L : List Str} {c first : Nat} {b : Bool} (hc : c < 11) (hL : LOk L) : ∀ (r : List Str) (i : Nat) (f : List Nat) (s5 s6 : S), L.drop i = r → f.length + r.length ≤ 10000 →
    match goL c b r i f with
    | .ok g => ∃ s5' s6', forGoX none (.one 5) lrB (rngItems i r.length) [.dat (sL L), .dat (nD first), .dat (nD c), .dat (.bool b), .ref 0, s5, s6] [f.map nD] = some (.r (.nx [.dat (sL L), .dat (nD first), .dat (nD c), .dat (.bool b), .ref 0, s5', s6'] [g.map nD]))
    | .error j => ∃ sl io, forGoX none (.one 5) lrB (rngItems i r.length) [.dat (sL L), .dat (nD first), .dat (nD c), .dat (.bool b), .ref 0, s5, s6] [f.map nD] = some (.ex (ew j) sl io)
  | [], i, f, s5, s6, h, hf => ⟨s5, s6, rfl⟩
  | x :: r, i, f, s5, s6, h, hf => by
    rw [List.length_cons] at hf
    obtain ⟨s6', e⟩ := lr_turn (c := c) (first := first) (b := b) (f := f) (s6 := s6) h hc (Nat.le_of_lt (hL.1 x (drop_mem h)).1) (by unfold LIM; omega)
    have e1 : forGoX none (.one 5) lrB (rngItems i (x :: r).length) [.dat (sL L), .dat (nD first), .dat (nD c), .dat (.bool b), .ref 0, s5, s6] [f.map nD] = (lrB [.dat (sL L), .dat (nD first), .dat (nD c), .dat (.bool b), .ref 0, .dat (nD i), s6] [f.map nD]).bind (fgxK none (.one 5) lrB (rngItems ((i : Int) + 1) r.length)) := by
      rw [List.length_cons, rng_succ, forGoX_cons1]; rfl
    rw [e1, e]
    unfold goL
    cases hw : lt? x c with
    | none => exact ⟨_, _, rfl⟩
    | some w =>
      simp only []
      by_cases hl : late b f w = true
      · rw [if_pos hl, if_pos hl]; exact ⟨_, _, rfl⟩
      · rw [if_neg hl, if_neg hl, bind_some', fgxK_nx, i_succ]
        exact lr_loop hc hL r (i + 1) (f ++ [w]) (.dat (nD i)) s6' (drop_next h) (by rw [List.length_append, List.length_singleton]; omega)
theorem itR2 {sl : List S} {io : IO} {a : DA} {i n m : Nat} (h : a sl io = some ([.dat (nD i), .dat (nD m)], io)) (hm : m = i + n) (hl : m ≤ 1000000) : dItR2 a sl io = some ((rngItems i n, none), io) := by
  rw [dItR2_ap, h]
  exact rng2K_ap (by omega) (by omega) (by omega)
theorem len_sL (L : List Str) : lenD [sL L] = some (.dat (nD L.length)) := by
  show some (A.dat (.int ((L.map PyData.str).length : Int))) = _
  rw [List.length_map]; rfl
theorem spots_cons {c : Nat} {b : Bool} {first : Nat} {x : Str} {r : List Str} : spots c b first (x :: r) = if x = "-" then (if r = [] then .ok [] else .error (first + 1)) else goL c b (x :: r) first [] := rfl
theorem spots_nil {c : Nat} {b : Bool} {first : Nat} : spots c b first [] = .error first := rfl
theorem r_locales_read {L : List Str} {c first : Nat} {b : Bool} (hc : c < 11) (hL : LOk L) (hf : first ≤ L.length) : run_locales_read [sL L, nD first, nD c, .bool b] = some (fo ((spots c b first (L.drop first)).map dW)) := by
  have h1 := r_none_written L first hf
  have hl := hL.2
  cases h : L.drop first with
  | nil =>
    rw [h] at h1
    have := drop_len h hf
    simp at this
    refine runX_ex rfl ?_
    unfold d_locales_read
    simp [slots, h1, spots_nil, fo, this, Except.map]
  | cons x r =>
    rw [h] at h1
    simp only [] at h1
    rw [spots_cons]
    by_cases hx : x = "-"
    · rw [if_pos hx] at h1 ⊢
      by_cases hr : r = []
      · rw [if_pos hr] at h1 ⊢
        refine runX_dat rfl ?_ rfl
        unfold d_locales_read
        simp [slots, h1, dW]
      · rw [if_neg hr] at h1 ⊢
        refine runX_ex rfl ?_
        unfold d_locales_read
        simp [slots, h1]
    · rw [if_neg hx] at h1 ⊢
      have hlen := drop_len h hf
      have key := lr_loop (first := first) (b := b) hc hL (x :: r) first [] .un .un h (by simp at hlen ⊢; omega)
      have hit := itR2 (sl := [.dat (sL L), .dat (nD first), .dat (nD c), .dat (.bool b), .ref 0, .un, .un]) (io := [[]]) (a := dCons (dVar 1) (dCons (dCall lenD (dCons (dVar 0) (dNil))) (dNil))) (i := first) (n := (x :: r).length) (m := L.length) (by simp [len_sL]) hlen (by omega)
      have hpre : ∀ (q : DXS), (xSeq (xS (dOwn 4 (dLst (dNil)))) (xSeq (xFor (dItR2 (dCons (dVar 1) (dCons (dCall lenD (dCons (dVar 0) (dNil))) (dNil)))) (.one 5) lrB) q)) [.dat (sL L), .dat (nD first), .dat (nD c), .dat (.bool b), .un, .un, .un] [] = (forGoX none (.one 5) lrB (rngItems first (x :: r).length) [.dat (sL L), .dat (nD first), .dat (nD c), .dat (.bool b), .ref 0, .un, .un] [[]]).bind (xsqK q) := by
        intro q
        simp [-dItR2_ap, hit]
      have hb : d_locales_read (slots 7 ([sL L, nD first, nD c, .bool b].map .dat)) [] = (forGoX none (.one 5) lrB (rngItems first (x :: r).length) [.dat (sL L), .dat (nD first), .dat (nD c), .dat (.bool b), .ref 0, .un, .un] [[]]).bind (xsqK (xS (dRet (dCall tupleD (dCons (dVar 4) (dNil)))))) := by
        rw [← hpre]
        unfold d_locales_read lrB
        simp [slots, h1]
      cases hg : goL c b (x :: r) first [] with
      | ok g =>
        rw [hg] at key
        obtain ⟨s5', s6', e⟩ := key
        have e : forGoX none (.one 5) lrB (rngItems first (x :: r).length) [.dat (sL L), .dat (nD first), .dat (nD c), .dat (.bool b), .ref 0, .un, .un] [[]] = _ := e
        refine runX_dat rfl ⟨[g.map nD], ?_⟩ (by show imAll _ = true; simp)
        rw [show ([] : List D) = ([] : List Nat).map nD from rfl] at hb
        refine hb.trans ?_
        rw [show (([] : List Nat).map nD) = ([] : List D) from rfl, e]
        simp [dW]
      | error j =>
        rw [hg] at key
        obtain ⟨sl, io, e⟩ := key
        have e : forGoX none (.one 5) lrB (rngItems first (x :: r).length) [.dat (sL L), .dat (nD first), .dat (nD c), .dat (.bool b), .ref 0, .un, .un] [[]] = _ := e
        refine runX_ex rfl ⟨sl, io, ?_⟩
        refine hb.trans ?_
        rw [e]; rfl
end K75
set_option Elab.async false
set_option linter.all false
set_option maxRecDepth 100000
set_option maxHeartbeats 1000000
namespace K75
open PySem L2 DD TL StrLaws
def lsB : DS := (dSeq (dSet 6 (dFn run__law_letter (dCons (dOp idxD (dVar 0) (dVar 5)) (dCons (dVar 2) (dNil))))) (dSeq (dIf (dOrT (dTst (dOp isD (dVar 6) (dC .none))) (dAndT (dTru (dVar 3)) (dAndT (dTst (dOp neO (dVar 4) (dTup (dNil)))) (dTst (dOp geD (dOp idxD (dVar 4) (dNeg (dC (.int 1)))) (dVar 6)))))) (dRet (dTup (dCons (dC .none) (dCons (dVar 5) (dNil))))) (dNext)) (dSet 4 (dOp addD (dVar 4) (dTup (dCons (dVar 6) (dNil)))))))
theorem two_lim : 2 ≤ LIM := by decide
theorem dW_snoc (f : List Nat) (w : Nat) (h : f.length < LIM) : addD (dW f) (.tuple [.int (w : Int)]) = some (.dat (dW (f ++ [w]))) := by
  show addD (.tuple _) (.tuple _) = _
  rw [addD_tup, if_pos (by simp; omega)]
  show _ = some (A.dat (.tuple _))
  rw [List.map_append]; rfl
theorem ls_turn {L : List Str} {c first i : Nat} {b : Bool} {x : Str} {r : List Str} {f : List Nat} {s6 : S} (h : L.drop i = x :: r) (hc : c < 11) (hx : x.length ≤ LIM) (hf : f.length < LIM) :
    lsB [.dat (sL L), .dat (nD first), .dat (nD c), .dat (.bool b), .dat (dW f), .dat (nD i), s6] [] = match lt? x c with
      | none => some (.rt (.dat (.tuple [.none, nD i])) [])
      | some w => if late b f w = true then some (.rt (.dat (.tuple [.none, nD i])) []) else some (.nx [.dat (sL L), .dat (nD first), .dat (nD c), .dat (.bool b), .dat (dW (f ++ [w])), .dat (nD i), .dat (oN (lt? x c))] []) := by
  have h3 := at_drop h
  have h4 : run__law_letter [.str x, .int (c : Int)] = some (.dat (oN (lt? x c))) := r_lt x c hc hx
  have h5 := eq_W0 f
  have t2 := two_lim
  unfold lsB late
  cases hw : lt? x c with
  | none =>
    rw [hw] at h4
    simp [sL, nD, h3, h4, oN, t2]
  | some w =>
    rw [hw] at h4
    have h10 := dW_snoc f w hf
    have t1 := lim1
    cases b with
    | false => simp [sL, nD, h3, h4, oN, h10, t1]
    | true =>
      cases hl : f.getLast? with
      | none =>
        obtain rfl : f = [] := List.getLast?_eq_none_iff.mp hl
        simp [sL, nD, h3, h4, h5, oN, h10, t1]
      | some l =>
        have h6 : idxD (dW f) (.int (-1)) = some (.dat (.int (l : Int))) := by
          show (atI (f.map nD) (-1)).map _ = _
          rw [last_at hl]; rfl
        have h7 : ¬ f = [] := fun z => by subst z; cases hl
        by_cases hle : w ≤ l
        · have h8 : (w : Int) ≤ (l : Int) := by omega
          simp [sL, nD, h3, h4, h5, h6, oN, h7, h8, hle, t2]
        · have h8 : ¬ (w : Int) ≤ (l : Int) := by omega
          simp [sL, nD, h3, h4, h5, h6, oN, h7, h8, hle, h10, t1]
theorem ls_loop {L : List Str} {c first : Nat} {b : Bool} (hc : c < 11) (hL : LOk L) : ∀ (r : List Str) (i : Nat) (f : List Nat) (s5 s6 : S), L.drop i = r → f.length + r.length ≤ 10000 →
    match goL c b r i f with
    | .ok g => ∃ s5' s6', forGo none (.one 5) lsB (rngItems i r.length) [.dat (sL L), .dat (nD first), .dat (nD c), .dat (.bool b), .dat (dW f), s5, s6] [] = some (.nx [.dat (sL L), .dat (nD first), .dat (nD c), .dat (.bool b), .dat (dW g), s5', s6'] [])
    | .error j => forGo none (.one 5) lsB (rngItems i r.length) [.dat (sL L), .dat (nD first), .dat (nD c), .dat (.bool b), .dat (dW f), s5, s6] [] = some (.rt (.dat (.tuple [.none, nD j])) [])
  | [], i, f, s5, s6, h, hf => ⟨s5, s6, rfl⟩
  | x :: r, i, f, s5, s6, h, hf => by
    rw [List.length_cons] at hf
    have e := ls_turn (c := c) (first := first) (b := b) (f := f) (s6 := s6) h hc (Nat.le_of_lt (hL.1 x (drop_mem h)).1) (by unfold LIM; omega)
    have e1 : forGo none (.one 5) lsB (rngItems i (x :: r).length) [.dat (sL L), .dat (nD first), .dat (nD c), .dat (.bool b), .dat (dW f), s5, s6] [] = (lsB [.dat (sL L), .dat (nD first), .dat (nD c), .dat (.bool b), .dat (dW f), .dat (nD i), s6] []).bind (fgK none (.one 5) lsB (rngItems ((i : Int) + 1) r.length)) := by
      rw [List.length_cons, rng_succ, forGo_cons1]; rfl
    rw [e1, e]
    unfold goL
    cases hw : lt? x c with
    | none => rfl
    | some w =>
      simp only []
      by_cases hl : late b f w = true
      · rw [if_pos hl, if_pos hl]; rfl
      · rw [if_neg hl, if_neg hl, bind_some', fgK_nx, i_succ]
        exact ls_loop hc hL r (i + 1) (f ++ [w]) (.dat (nD i)) _ (drop_next h) (by rw [List.length_append, List.length_singleton]; omega)
/-! lists of words, compared -/
theorem lay_str : ∀ l : List Str, (∀ x ∈ l, SgOk x) → PyData.canLayAll0 (l.map PyData.str) = true ∧ PyData.depthAll (l.map PyData.str) = 0
  | [], _ => ⟨rfl, by simp only [List.map_nil, PyData.depthAll]⟩
  | a :: l, h => by
    have ih := lay_str l fun x hx => h x (List.mem_cons_of_mem _ hx)
    refine ⟨?_, by rw [List.map_cons, PyData.depthAll, ih.2]; simp only [PyData.depth]; rfl⟩
    rw [List.map_cons, PyData.canLayAll0, ih.1, Bool.and_true, PyData.canLay0]
    exact h a List.mem_cons_self
theorem eqv_strs : ∀ (l m : List Str), PyData.eqvAll (l.map PyData.str) (m.map PyData.str) = decide (l = m)
  | [], [] => by simp only [List.map_nil, PyData.eqvAll]; rfl
  | [], b :: m => by simp only [List.map_nil, List.map_cons, PyData.eqvAll]; simp
  | a :: l, [] => by simp only [List.map_nil, List.map_cons, PyData.eqvAll]; simp
  | a :: l, b :: m => by
    simp only [List.map_cons, PyData.eqvAll, PyData.eqv, eqv_strs l m]
    by_cases h1 : a = b <;> by_cases h2 : l = m <;> simp [h1, h2]
theorem eq_strs {l m : List Str} (hl : ∀ x ∈ l, SgOk x) (hm : ∀ x ∈ m, SgOk x) : eqD (sL l) (sL m) = some (decide (l = m)) := by
  have h1 : ∀ l : List Str, (∀ x ∈ l, SgOk x) → SeqAt.shaped (sL l) = true := fun l hl => by
    unfold SeqAt.shaped sL
    rw [PyData.canLay0, (lay_str _ hl).1, PyData.depth, (lay_str _ hl).2]; rfl
  unfold eqD
  simp only [h1 l hl, h1 m hm, Bool.and_self, if_true]
  unfold sL
  simp only [eqS, PyData.eqv, eqv_strs]
theorem cut_from (L : List Str) (i : Nat) : cutD (L.map PyData.str) (some (i : Int)) none = (L.drop i).map PyData.str := by
  unfold cutD
  rw [HT.sIx_nat, HT.sIx_none, List.length_map, ← List.map_drop, ← List.map_take]
  congr 1
  by_cases h : i ≤ L.length
  · rw [Nat.min_eq_left h, List.take_of_length_le (by rw [List.length_drop]; omega)]
  · rw [Nat.min_eq_right (by omega), List.drop_eq_nil_of_le (by omega : L.length ≤ i), List.drop_eq_nil_of_le (Nat.le_refl _)]; simp
theorem cut_one (L : List Str) (i : Nat) : cutD (L.map PyData.str) (some (i : Int)) (some ((i + 1 : Nat) : Int)) = ((L.drop i).take 1).map PyData.str := by
  unfold cutD
  rw [HT.sIx_nat, HT.sIx_nat, List.length_map, ← List.map_drop, ← List.map_take]
  congr 1
  by_cases h : i < L.length
  · rw [Nat.min_eq_left (by omega), Nat.min_eq_left (by omega), show i + 1 - i = 1 by omega]
  · rw [Nat.min_eq_right (by omega), Nat.min_eq_right (by omega), List.drop_eq_nil_of_le (by omega : L.length ≤ i), List.drop_eq_nil_of_le (Nat.le_refl _)]; simp
theorem r_spots_read {L : List Str} {c first : Nat} {b : Bool} (hc : c < 11) (hL : LOk L) (hf : first ≤ L.length) : run__law_spots_read [sL L, nD first, nD c, .bool b] = some (.dat (pr ((spots c b first (L.drop first)).map dW))) := by
  have hl := hL.2
  have t2 := two_lim
  have hcut := cut_from L first
  have heq := eq_strs (l := L.drop first) (m := []) (fun x hx => (hL.1 x (List.mem_of_mem_drop hx)).2) (by simp)
  unfold sL at heq
  cases h : L.drop first with
  | nil =>
    rw [h] at hcut heq
    refine runD_rt rfl ?_ rfl
    unfold d__law_spots_read
    have heq : eqD (.list []) (.list []) = some true := by decide +kernel
    simp [slots, sL, nD, hcut, heq, spots_nil, Except.map, pr, t2]
  | cons x r =>
    rw [h] at hcut heq
    have h3 := at_drop h
    have hlen := drop_len h hf
    rw [List.length_cons] at hlen
    rw [spots_cons]
    simp only [List.map_nil, List.map_cons, reduceCtorEq, decide_false] at heq hcut
    by_cases hx : x = "-"
    · rw [if_pos hx]
      subst hx
      by_cases hr : r = []
      · rw [if_pos hr]
        subst hr
        have h4 : ¬ ((first : Int) + 1 < (L.length : Int)) := by simp at hlen; omega
        have heq : eqD (.list [.str "-"]) (.list []) = some false := by decide +kernel
        refine runD_rt rfl ?_ rfl
        unfold d__law_spots_read
        simp [slots, sL, nD, hcut, heq, h3, h4, t2, Except.map, pr, dW]
      · rw [if_neg hr]
        have h5 : 0 < r.length := List.length_pos_iff.mpr hr
        have h4 : ((first : Int) + 1 < (L.length : Int)) := by omega
        refine runD_rt rfl ?_ rfl
        unfold d__law_spots_read
        simp [slots, sL, nD, hcut, heq, h3, h4, t2, Except.map, pr]
    · rw [if_neg hx]
      have key := ls_loop (first := first) (b := b) hc hL (x :: r) first [] .un .un h (by simp; omega)
      have hit := itR2 (sl := [.dat (sL L), .dat (nD first), .dat (nD c), .dat (.bool b), .dat (dW []), .un, .un]) (io := []) (a := dCons (dVar 1) (dCons (dCall lenD (dCons (dVar 0) (dNil))) (dNil))) (i := first) (n := (x :: r).length) (m := L.length) (by simp [len_sL]) (by simp; omega) (by omega)
      have hpre : ∀ (q : DS), (dSeq (dSet 4 (dTup (dNil))) (dSeq (dFor (dItR2 (dCons (dVar 1) (dCons (dCall lenD (dCons (dVar 0) (dNil))) (dNil)))) (.one 5) lsB) q)) [.dat (sL L), .dat (nD first), .dat (nD c), .dat (.bool b), .un, .un, .un] [] = (forGo none (.one 5) lsB (rngItems first (x :: r).length) [.dat (sL L), .dat (nD first), .dat (nD c), .dat (.bool b), .dat (dW []), .un, .un] []).bind (sqK q) := by
        intro q
        simp only [dSeq_ap, dSet_ap, dTup_ap, dNil_ap, bind_some', vwIs_nil, List.length_nil, Nat.zero_le, if_true, Option.map_some, sqK_nx, List.set_cons_succ, List.set_cons_zero, slotOf_dat, dFor_ap]
        rw [show (PyData.tuple []) = dW [] from rfl, hit]
        rfl
      have hb : d__law_spots_read (slots 7 ([sL L, nD first, nD c, .bool b].map .dat)) [] = (forGo none (.one 5) lsB (rngItems first (x :: r).length) [.dat (sL L), .dat (nD first), .dat (nD c), .dat (.bool b), .dat (dW []), .un, .un] []).bind (sqK (dRet (dTup (dCons (dVar 4) (dCons (dC .none) (dNil)))))) := by
        rw [← hpre]
        unfold d__law_spots_read lsB
        simp [slots, sL, nD, hcut, heq, h3, hx]
      cases hg : goL c b (x :: r) first [] with
      | ok g =>
        rw [hg] at key
        obtain ⟨s5', s6', e⟩ := key
        refine runD_rt rfl ⟨[], ?_, trivial⟩ (by show imAll _ = true; simp [Except.map, dW])
        refine hb.trans ?_
        rw [e]
        simp [Except.map, pr, t2]
      | error j =>
        rw [hg] at key
        refine runD_rt rfl ⟨[], ?_, trivial⟩ rfl
        refine hb.trans ?_
        rw [key]; rfl
end K75
set_option Elab.async false
set_option linter.all false
set_option maxRecDepth 100000
set_option maxHeartbeats 1000000
namespace K75
open PySem L2 DD TL StrLaws
def goT : List Str → Nat → List Nat → Rd (List Nat)
  | [], _, f => .ok f
  | x :: r, i, f => match lt? x (f.length + 1) with
    | none => .error i
    | some p => if f.length + 1 = 10 then .error i else goT r (i + 1) (f ++ [p])
theorem goT_ok : ∀ {r : List Str} {i : Nat} {f g : List Nat}, goT r i f = .ok g → TreeOk f → TreeOk g ∧ g.length = f.length + r.length
  | [], i, f, g, h, hf => by cases h; exact ⟨hf, rfl⟩
  | x :: r, i, f, g, h, hf => by
    unfold goT at h
    split at h
    · cases h
    · rename_i w hw
      split at h
      · cases h
      · obtain ⟨h1, h2⟩ := goT_ok h (by
          refine ⟨by have := hf.1; rw [List.length_append, List.length_singleton]; omega, ?_⟩
          exact Up.snoc hf.2 (by have := (lt_some hw).1; omega))
        exact ⟨h1, by rw [h2, List.length_append, List.length_singleton, List.length_cons]; omega⟩
theorem goT_err : ∀ {r : List Str} {i : Nat} {f : List Nat} {j : Nat}, goT r i f = .error j → i ≤ j ∧ j < i + r.length
  | [], i, f, j, h => by cases h
  | x :: r, i, f, j, h => by
    unfold goT at h
    rw [List.length_cons]
    split at h
    · cases h; omega
    · split at h
      · cases h; omega
      · have := goT_err h; omega
def prB : DXS := xSeq (xS (dSet 5 (dFn run_locale_read (dCons (dOp idxD (dVar 0) (dVar 4)) (dCons (dCall lenD (dCons (dVar 3) (dNil))) (dNil)))))) (xSeq (xIf (xT (dOrT (dTst (dOp isD (dVar 5) (dC .none))) (dTst (dOp eqO (dCall lenD (dCons (dVar 3) (dNil))) (dC (.int 10)))))) (xRaise "InvalidWords" "place" (dCons (dVar 4) (dNil))) (xS (dNext))) (xS (dApp 3 (dVar 5))))
theorem pr_turn {L : List Str} {a b i : Nat} {x : Str} {r : List Str} {f : List Nat} {s5 : S} (h : L.drop i = x :: r) (hx : x.length ≤ LIM) (hf : f.length ≤ 9) :
    ∃ s5', prB [.dat (sL L), .dat (nD a), .dat (nD b), .ref 0, .dat (nD i), s5] [.none :: f.map nD] = match lt? x (f.length + 1) with
      | none => some (.ex (ew i) [.dat (sL L), .dat (nD a), .dat (nD b), .ref 0, .dat (nD i), s5'] [.none :: f.map nD])
      | some p => if f.length + 1 = 10 then some (.ex (ew i) [.dat (sL L), .dat (nD a), .dat (nD b), .ref 0, .dat (nD i), s5'] [.none :: f.map nD]) else some (.r (.nx [.dat (sL L), .dat (nD a), .dat (nD b), .ref 0, .dat (nD i), s5'] [.none :: (f ++ [p]).map nD])) := by
  refine ⟨.dat (oN (lt? x (f.length + 1))), ?_⟩
  have h3 := at_drop h
  have h4 : run_locale_read [.str x, .int ((f.length : Int) + 1)] = some (.dat (oN (lt? x (f.length + 1)))) := r_locale_read x (f.length + 1) (by omega) hx
  have hl : f.length + 1 < LIM := by unfold LIM; omega
  unfold prB
  cases hw : lt? x (f.length + 1) with
  | none =>
    rw [hw] at h4
    simp [sL, nD, h3, h4, oN, ew]
  | some p =>
    rw [hw] at h4
    by_cases h10 : f.length + 1 = 10
    · have h8 : (f.length : Int) + 1 = 10 := by omega
      rw [h8] at h4
      simp [sL, nD, h3, h4, oN, h10, h8, ew]
    · have h8 : ¬ (f.length : Int) + 1 = 10 := by omega
      simp [sL, nD, h3, h4, oN, h10, h8, hl]
theorem pr_loop {L : List Str} {a b : Nat} {t : List Str} (hL : LOk L) : ∀ (r : List Str) (i : Nat) (f : List Nat) (s4 s5 : S), L.drop i = r ++ t → f.length ≤ 9 →
    match goT r i f with
    | .ok g => ∃ s4' s5', forGoX none (.one 4) prB (rngItems i r.length) [.dat (sL L), .dat (nD a), .dat (nD b), .ref 0, s4, s5] [.none :: f.map nD] = some (.r (.nx [.dat (sL L), .dat (nD a), .dat (nD b), .ref 0, s4', s5'] [.none :: g.map nD]))
    | .error j => ∃ sl io, forGoX none (.one 4) prB (rngItems i r.length) [.dat (sL L), .dat (nD a), .dat (nD b), .ref 0, s4, s5] [.none :: f.map nD] = some (.ex (ew j) sl io)
  | [], i, f, s5, s6, h, hf => ⟨s5, s6, rfl⟩
  | x :: r, i, f, s5, s6, h, hf => by
    obtain ⟨s6', e⟩ := pr_turn (a := a) (b := b) (f := f) (s5 := s6) h (Nat.le_of_lt (hL.1 x (drop_mem h)).1) hf
    have e1 : forGoX none (.one 4) prB (rngItems i (x :: r).length) [.dat (sL L), .dat (nD a), .dat (nD b), .ref 0, s5, s6] [.none :: f.map nD] = (prB [.dat (sL L), .dat (nD a), .dat (nD b), .ref 0, .dat (nD i), s6] [.none :: f.map nD]).bind (fgxK none (.one 4) prB (rngItems ((i : Int) + 1) r.length)) := by
      rw [List.length_cons, rng_succ, forGoX_cons1]; rfl
    rw [e1, e]
    unfold goT
    cases hw : lt? x (f.length + 1) with
    | none => exact ⟨_, _, rfl⟩
    | some w =>
      simp only []
      by_cases hl : f.length + 1 = 10
      · rw [if_pos hl, if_pos hl]; exact ⟨_, _, rfl⟩
      · rw [if_neg hl, if_neg hl, bind_some', fgxK_nx, i_succ]
        exact pr_loop hL r (i + 1) (f ++ [w]) (.dat (nD i)) s6' (drop_next h) (by rw [List.length_append, List.length_singleton]; omega)
theorem r_parents_read {L r t : List Str} {first last : Nat} (hL : LOk L) (h : L.drop first = r ++ t) (hl : last = first + r.length) (hlen : last ≤ L.length) : run_parents_read [sL L, nD first, nD last] = some (fo ((goT r first []).map dT)) := by
  have hL2 := hL.2
  have key := pr_loop (a := first) (b := last) hL r first [] .un .un h (by simp)
  have hit := itR2 (sl := [.dat (sL L), .dat (nD first), .dat (nD last), .ref 0, .un, .un]) (io := [[.none]]) (a := dCons (dVar 1) (dCons (dVar 2) (dNil))) (i := first) (n := r.length) (m := last) (by simp) hl (by omega)
  have t1 := lim1
  have hb : d_parents_read (slots 6 ([sL L, nD first, nD last].map .dat)) [] = (forGoX none (.one 4) prB (rngItems first r.length) [.dat (sL L), .dat (nD first), .dat (nD last), .ref 0, .un, .un] [[.none]]).bind (xsqK (xS (dRet (dCall tupleD (dCons (dVar 3) (dNil)))))) := by
    unfold d_parents_read
    rw [show ∀ x y z : DXS, xSeq x (xSeq y z) = xSeq x (xSeq y z) from fun _ _ _ => rfl]
    simp [slots, -dItR2_ap, hit, t1, prB]
  cases hg : goT r first [] with
  | ok g =>
    rw [hg] at key
    obtain ⟨s5', s6', e⟩ := key
    refine runX_dat rfl ⟨[.none :: g.map nD], ?_⟩ (by show imAll _ = true; simp)
    refine hb.trans ?_
    simp only [List.map_nil] at e
    rw [e]
    simp [dT]
  | error j =>
    rw [hg] at key
    obtain ⟨sl, io, e⟩ := key
    refine runX_ex rfl ⟨sl, io, ?_⟩
    refine hb.trans ?_
    simp only [List.map_nil] at e
    rw [e]; rfl
/-! the law's reader of a tree -/
def wrB : DS := dSeq (dIf (dAndT (dTst (dOp eqO (dVar 1) (dC (.int 1)))) (dTst (dOp eqO (dOp idxD (dVar 0) (dVar 3)) (dC (.str "rows"))))) (dRet (dTup (dCons (dVar 2) (dCons (dC .none) (dNil))))) (dNext)) (dSeq (dSet 4 (dFn run__law_letter (dCons (dOp idxD (dVar 0) (dVar 3)) (dCons (dCall lenD (dCons (dVar 2) (dNil))) (dNil))))) (dSeq (dIf (dOrT (dTst (dOp isD (dVar 4) (dC .none))) (dTst (dOp eqO (dCall lenD (dCons (dVar 2) (dNil))) (dC (.int 10))))) (dRet (dTup (dCons (dC .none) (dCons (dVar 3) (dNil))))) (dNext)) (dSet 2 (dOp addD (dVar 2) (dTup (dCons (dVar 4) (dNil)))))))
def stops (a : Nat) (x : Str) : Bool := decide (a = 1) && decide (x = "rows")
def upto (a : Nat) : List Str → List Str
  | [] => []
  | x :: r => if stops a x = true then [] else x :: upto a r
theorem dT_snoc (f : List Nat) (p : Nat) (h : f.length ≤ 9) : addD (dT f) (.tuple [.int (p : Int)]) = some (.dat (dT (f ++ [p]))) := by
  show addD (.tuple _) (.tuple _) = _
  rw [addD_tup, if_pos (by simp; unfold LIM; omega)]
  show _ = some (A.dat (.tuple _))
  rw [List.map_append]; rfl
theorem wr_turn {L : List Str} {a i : Nat} {x : Str} {r : List Str} {f : List Nat} {s4 : S} (ha : a ≤ 1) (h : L.drop i = x :: r) (hx : x.length ≤ LIM) (hf : f.length ≤ 9) :
    wrB [.dat (sL L), .dat (nD a), .dat (dT f), .dat (nD i), s4] [] = if stops a x = true then some (.rt (.dat (.tuple [dT f, .none])) []) else match lt? x (f.length + 1) with
      | none => some (.rt (.dat (.tuple [.none, nD i])) [])
      | some p => if f.length + 1 = 10 then some (.rt (.dat (.tuple [.none, nD i])) []) else some (.nx [.dat (sL L), .dat (nD a), .dat (dT (f ++ [p])), .dat (nD i), .dat (nD p)] []) := by
  have h3 := at_drop h
  have h4 : run__law_letter [.str x, .int ((f.length : Int) + 1)] = some (.dat (oN (lt? x (f.length + 1)))) := r_lt x (f.length + 1) (by omega) hx
  have t2 := two_lim
  have t1 := lim1
  have hlen := lenT f
  have ha1 : decide ((a : Int) = 1) = decide (a = 1) := decide_eq_decide.mpr (by omega)
  unfold wrB stops
  by_cases hs : a = 1 ∧ x = "rows"
  · obtain ⟨rfl, rfl⟩ := hs
    simp [sL, nD, h3, t2]
  · have hs' : (decide (a = 1) && decide (x = "rows")) = false := by
      rw [Bool.and_eq_false_iff]
      by_cases h1 : a = 1
      · exact .inr (decide_eq_false fun z => hs ⟨h1, z⟩)
      · exact .inl (decide_eq_false h1)
    rw [hs']
    have hpre : ∀ q : DS, dSeq (dIf (dAndT (dTst (dOp eqO (dVar 1) (dC (.int 1)))) (dTst (dOp eqO (dOp idxD (dVar 0) (dVar 3)) (dC (.str "rows"))))) (dRet (dTup (dCons (dVar 2) (dCons (dC .none) (dNil))))) (dNext)) q [.dat (sL L), .dat (nD a), .dat (dT f), .dat (nD i), s4] [] = q [.dat (sL L), .dat (nD a), .dat (dT f), .dat (nD i), s4] [] := by
      intro q
      by_cases h1 : a = 1
      · subst h1
        have h2 : ¬ x = "rows" := fun z => hs ⟨rfl, z⟩
        simp [sL, nD, h3, h2]
      · have h2 : ¬ (a : Int) = 1 := by omega
        simp [sL, nD, h2]
    rw [hpre]
    cases hw : lt? x (f.length + 1) with
    | none =>
      rw [hw] at h4
      simp [sL, nD, h3, h4, oN, t2, -lenD_tup, hlen]
    | some p =>
      rw [hw] at h4
      have h10' := dT_snoc f p hf
      by_cases h10 : f.length + 1 = 10
      · have h8 : (f.length : Int) + 1 = 10 := by omega
        rw [h8] at h4 hlen
        simp [sL, nD, h3, h4, oN, h10, h8, t2, -lenD_tup, hlen]
      · have h8 : ¬ (f.length : Int) + 1 = 10 := by omega
        simp [sL, nD, h3, h4, oN, h10, h8, t1, -lenD_tup, hlen, h10']
theorem wr_loop {L : List Str} {a : Nat} (ha : a ≤ 1) (hL : LOk L) : ∀ (r : List Str) (i : Nat) (f : List Nat) (s3 s4 : S), L.drop i = r → f.length ≤ 9 →
    (forGo none (.one 3) wrB (rngItems i r.length) [.dat (sL L), .dat (nD a), .dat (dT f), s3, s4] []).bind (sqK (dRet (dTup (dCons (dVar 2) (dCons (dC .none) (dNil)))))) = some (.rt (.dat (pr ((goT (upto a r) i f).map dT))) [])
  | [], i, f, s3, s4, h, hf => by
    have t2 := two_lim
    rw [show upto a [] = [] from rfl, show rngItems (i : Int) ([] : List Str).length = [] from rfl, forGo_nil0]
    simp [goT, Except.map, pr, t2]
  | x :: r, i, f, s3, s4, h, hf => by
    have e := wr_turn (a := a) (f := f) (s4 := s4) ha h (Nat.le_of_lt (hL.1 x (drop_mem h)).1) hf
    have e1 : forGo none (.one 3) wrB (rngItems i (x :: r).length) [.dat (sL L), .dat (nD a), .dat (dT f), s3, s4] [] = (wrB [.dat (sL L), .dat (nD a), .dat (dT f), .dat (nD i), s4] []).bind (fgK none (.one 3) wrB (rngItems ((i : Int) + 1) r.length)) := by
      rw [List.length_cons, rng_succ, forGo_cons1]; rfl
    rw [e1, e]
    unfold upto
    by_cases hs : stops a x = true
    · rw [if_pos hs, if_pos hs]; rfl
    · rw [if_neg hs, if_neg hs]
      unfold goT
      cases hw : lt? x (f.length + 1) with
      | none => rfl
      | some w =>
        simp only []
        by_cases hl : f.length + 1 = 10
        · rw [if_pos hl, if_pos hl]; rfl
        · rw [if_neg hl, if_neg hl, bind_some', fgK_nx, i_succ]
          exact wr_loop ha hL r (i + 1) (f ++ [w]) (.dat (nD i)) _ (drop_next h) (by rw [List.length_append, List.length_singleton]; omega)
def wrld (a : Nat) (l : List Str) : Rd (List Nat) := match l with
  | [] => .error a
  | x :: r => if x = "tree" then goT (upto a r) (a + 1) [] else .error a
theorem tree_sg : SgOk "tree" := by unfold SgOk; decide +kernel
theorem wrld_cons {a : Nat} {x : Str} {r : List Str} : wrld a (x :: r) = if x = "tree" then goT (upto a r) (a + 1) [] else .error a := rfl
theorem eq_s1 {x y : Str} (hx : SgOk x) (hy : SgOk y) : eqD (.list [.str x]) (.list [.str y]) = some (decide (x = y)) := by
  have h := eq_strs (l := [x]) (m := [y]) (by intro z hz; rw [List.mem_singleton] at hz; subst hz; exact hx) (by intro z hz; rw [List.mem_singleton] at hz; subst hz; exact hy)
  refine h.trans ?_
  congr 1
  rw [decide_eq_decide]
  simp
theorem r_world_read {L : List Str} {a : Nat} (ha : a ≤ 1) (hL : LOk L) : run__law_world_read [sL L, nD a] = some (.dat (pr ((wrld a (L.drop a)).map dT))) := by
  have hl := hL.2
  have t2 := two_lim
  have t1 := lim1
  have hcut : cutD (L.map PyData.str) (some (a : Int)) (some ((a : Int) + 1)) = ((L.drop a).take 1).map PyData.str := cut_one L a
  cases h : L.drop a with
  | nil =>
    rw [h] at hcut
    have heq : eqD (.list []) (.list [.str "tree"]) = some false := by decide +kernel
    refine runD_rt rfl ?_ (by rfl)
    unfold d__law_world_read
    simp [slots, sL, nD, hcut, heq, t1, t2, wrld, pr, Except.map]
  | cons x r =>
    rw [h] at hcut
    have heq := eq_s1 (x := x) (y := "tree") (hL.1 x (drop_mem h)).2 tree_sg
    have hlen := drop_len h (by
      have : (L.drop a).length = r.length + 1 := by rw [h]; rfl
      rw [List.length_drop] at this; omega)
    rw [List.length_cons] at hlen
    simp only [List.take_succ_cons, List.take_zero, List.map_cons, List.map_nil] at hcut
    rw [wrld_cons]
    by_cases hx : x = "tree"
    · subst hx
      rw [if_pos rfl]
      have key := wr_loop ha hL r (a + 1) [] .un .un (drop_next h) (by simp)
      have hit : rng2K ([.dat (.int ((a : Int) + 1)), .dat (.int (L.length : Int))], []) = some ((rngItems ((a : Int) + 1) r.length, none), []) := rng2K_ap (by omega) (by omega) (by omega)
      refine runD_rt rfl ⟨[], ?_, trivial⟩ (by
        cases hg : goT (upto a r) (a + 1) [] with
        | ok g => show imAll _ = true; simp [Except.map, dT]
        | error j => rfl)
      rw [← key]
      unfold d__law_world_read
      have e0 : dT [] = .tuple [.none] := rfl
      rw [e0]
      simp [slots, sL, nD, hcut, heq, t1, hit, wrB]
    · rw [if_neg hx]
      refine runD_rt rfl ?_ (by rfl)
      unfold d__law_world_read
      simp [slots, sL, nD, hcut, heq, hx, t1, t2, pr, Except.map]
end K75
set_option Elab.async false
set_option linter.all false
set_option maxRecDepth 100000
set_option maxHeartbeats 1000000
namespace K75
open PySem L2 DD TL StrLaws
def sig (a : Nat) : Option (Option Nat) := if a = 45 then some none else if 48 ≤ a ∧ a < 58 then some (some (a - 48)) else none
def sigs : List Nat → Option Row
  | [] => some []
  | a :: r => match sig a with
    | none => none
    | some x => (sigs r).map (x :: ·)
def row? (x : Str) : Option Row := if 1 ≤ x.length ∧ x.length ≤ 4 then sigs (tl x) else none
def oR : Option Row → D
  | none => .none
  | some r => dR r
theorem im_oR (x : Option Row) : im (oR x) = true := by cases x with
  | none => rfl
  | some r => exact im_dR r
theorem sig_lt {a n : Nat} (h : sig a = some (some n)) : n < 10 ∧ (⟨#[a]⟩ : Str) = sgn (some n) := by
  unfold sig at h
  split at h
  · cases h
  · split at h
    · cases h
      refine ⟨by omega, ?_⟩
      show (⟨#[a]⟩ : Str) = ⟨#[48 + (a - 48)]⟩
      rw [show 48 + (a - 48) = a by omega]
    · cases h
theorem sig_dash {a : Nat} (h : sig a = some none) : (⟨#[a]⟩ : Str) = "-" := by
  unfold sig at h
  split at h
  · rename_i h1; subst h1; decide +kernel
  · split at h <;> cases h
theorem sgs_tl : tl ("0123456789-" : Str) = [48, 49, 50, 51, 52, 53, 54, 55, 56, 57, 45] := by decide +kernel
theorem in_sgs (a : Nat) : inD (.str ⟨#[a]⟩) (.str "0123456789-") = some (sig a).isSome := by
  show some (decide (a ∈ tl ("0123456789-" : Str))) = _
  rw [sgs_tl]
  congr 1
  unfold sig
  by_cases h : a = 45
  · subst h; rfl
  · rw [if_neg h]
    by_cases h2 : 48 ≤ a ∧ a < 58
    · rw [if_pos h2]
      refine decide_eq_true ?_
      simp only [List.mem_cons, List.not_mem_nil, or_false]
      omega
    · rw [if_neg h2]
      refine decide_eq_false ?_
      simp only [List.mem_cons, List.not_mem_nil, or_false]
      omega
theorem dash_ix : indexD "0123456789-" [.str "-"] = some (.dat (.int 10)) := by
  have h : Builtin.Str.occurrences "0123456789-" "-" 0 ("0123456789-" : Str).length 1 = [10] := by decide +kernel
  show (match Builtin.Str.occurrences "0123456789-" "-" 0 ("0123456789-" : Str).length 1 with | i :: _ => some (A.dat (.int (i : Nat))) | [] => none) = _
  rw [h]; rfl
theorem sg_ix {n : Nat} (h : n < 10) : indexD "0123456789-" [.str (sgn (some n))] = some (.dat (.int (n : Int))) := by
  show (match Builtin.Str.occurrences "0123456789-" (sgn (some n)) 0 ("0123456789-" : Str).length 1 with | i :: _ => some (A.dat (.int (i : Nat))) | [] => none) = _
  rw [sg_occ n h]
def rrB : DS := (dSeq (dIf (dTst (dOp ninO (dVar 2) (dC (.str "0123456789-")))) (dRet (dC .none)) (dNext)) (dApp 1 (dIfE (dTst (dOp eqO (dVar 2) (dC (.str "-")))) (dC .none) (dMeth indexD (dC (.str "0123456789-")) (dCons (dVar 2) (dNil))))))
def one (a : Nat) : D := .str ⟨#[a]⟩
theorem rr_turn {s0 : S} {a : Nat} {f : Row} (hf : f.length < LIM) : rrB [s0, .ref 0, .dat (one a)] [f.map oD] = match sig a with
    | none => some (.rt (.dat .none) [f.map oD])
    | some x => some (.nx [s0, .ref 0, .dat (one a)] [(f ++ [x]).map oD]) := by
  have h1 := in_sgs a
  unfold rrB one
  cases hs : sig a with
  | none =>
    rw [hs] at h1
    simp [h1]
  | some x =>
    rw [hs] at h1
    cases x with
    | none =>
      have h2 := sig_dash hs
      rw [h2] at h1 ⊢
      simp [h1, hf, oD]
    | some n =>
      obtain ⟨h3, h2⟩ := sig_lt hs
      rw [h2] at h1 ⊢
      have h4 := sg_ne n h3
      have h5 := sg_ix h3
      simp [h1, hf, oD, h4, h5, nD]
theorem rr_loop {s0 : S} : ∀ (l : List Nat) (f : Row) (s2 : S), f.length + l.length < LIM →
    ∃ io, (forGo none (.one 2) rrB (l.map one) [s0, .ref 0, s2] [f.map oD]).bind (sqK (dRet (dCall tupleD (dCons (dVar 1) (dNil))))) = some (.rt (.dat (match sigs l with | none => .none | some r => dR (f ++ r))) io)
  | [], f, s2, h => by
    refine ⟨[f.map oD], ?_⟩
    rw [show ([] : List Nat).map one = [] from rfl, forGo_nil0]
    simp [sigs, dR]
  | a :: l, f, s2, h => by
    rw [List.length_cons] at h
    have e := rr_turn (s0 := s0) (a := a) (f := f) (by omega)
    have e1 : forGo none (.one 2) rrB ((a :: l).map one) [s0, .ref 0, s2] [f.map oD] = (rrB [s0, .ref 0, .dat (one a)] [f.map oD]).bind (fgK none (.one 2) rrB (l.map one)) := by
      rw [List.map_cons, forGo_cons1]; rfl
    rw [e1, e]
    unfold sigs
    cases hs : sig a with
    | none => exact ⟨_, rfl⟩
    | some x =>
      obtain ⟨io, e2⟩ := rr_loop l (f ++ [x]) (.dat (one a)) (by rw [List.length_append, List.length_singleton]; omega)
      refine ⟨io, ?_⟩
      simp only [bind_some', fgK_nx]
      rw [e2]
      cases sigs l with
      | none => rfl
      | some r => simp
theorem r_row_read {x : Str} (hx : x.length < LIM) : run_row_read [.str x] = some (.dat (oR (row? x))) := by
  unfold row?
  have hxl : x.length ≤ LIM := by omega
  by_cases h : 1 ≤ x.length ∧ x.length ≤ 4
  · rw [if_pos h]
    obtain ⟨io, e⟩ := rr_loop (s0 := .dat (.str x)) (tl x) [] .un (by rw [← len_tl]; simpa using hx)
    have h1 : (1 : Int) ≤ (x.length : Int) := by omega
    have h2 : (x.length : Int) ≤ 4 := by omega
    refine runD_rt rfl ⟨io, ?_, trivial⟩ (im_oR _)
    have e3 : (match sigs (tl x) with | none => PyData.none | some r => dR ([] ++ r)) = oR (sigs (tl x)) := by cases sigs (tl x) <;> rfl
    rw [e3] at e
    rw [← e]
    unfold d_row_read
    have e4 : strItems x = (tl x).map one := rfl
    simp [slots, hxl, h1, h2, e4, rrB]
  · rw [if_neg h]
    refine runD_rt rfl ?_ rfl
    unfold d_row_read
    by_cases h1 : 1 ≤ x.length
    · have h2 : ¬ (x.length : Int) ≤ 4 := by omega
      have h3 : (1 : Int) ≤ (x.length : Int) := by omega
      simp [slots, hxl, h2, h3, oR]
    · have h3 : ¬ (1 : Int) ≤ (x.length : Int) := by omega
      simp [slots, hxl, h3, oR]
/-! the law's -/
def eL : Option Nat → D
  | none => .list [.none, .int 10]
  | some n => .list [nD n]
def rlB : DS := (dSeq (dIf (dTst (dOp ninO (dVar 2) (dC (.str "0123456789-")))) (dRet (dC .none)) (dNext)) (dSet 1 (dOp addD (dVar 1) (dTup (dCons (dOp addD (dOp mulD (dLst (dCons (dC .none) (dNil))) (dCall intD (dCons (dOp eqO (dVar 2) (dC (.str "-"))) (dNil)))) (dLst (dCons (dMeth indexD (dC (.str "0123456789-")) (dCons (dVar 2) (dNil))) (dNil)))) (dNil))))))
def dE (f : Row) : D := .tuple (f.map eL)
theorem dE_snoc (f : Row) (x : Option Nat) (h : f.length < LIM) : addD (dE f) (.tuple [eL x]) = some (.dat (dE (f ++ [x]))) := by
  show addD (.tuple _) (.tuple _) = _
  rw [addD_tup, if_pos (by simp; omega)]
  show _ = some (A.dat (.tuple _))
  rw [List.map_append]; rfl
theorem mul1 : mulD (.list [.none]) (.int 1) = some (.tmp [.none]) := by
  unfold mulD
  exact if_pos ⟨by decide, by decide, by decide⟩
theorem mul0 : mulD (.list [.none]) (.int 0) = some (.tmp []) := by
  unfold mulD
  exact if_pos ⟨by decide, by decide, by decide⟩
theorem rl_turn {s0 s3 : S} {a : Nat} {f : Row} (hf : f.length < LIM) : rlB [s0, .dat (dE f), .dat (one a), s3] [] = match sig a with
    | none => some (.rt (.dat .none) [])
    | some x => some (.nx [s0, .dat (dE (f ++ [x])), .dat (one a), s3] []) := by
  have h1 := in_sgs a
  have t1 := lim1
  have t2 := two_lim
  unfold rlB one
  cases hs : sig a with
  | none =>
    rw [hs] at h1
    simp [h1]
  | some x =>
    rw [hs] at h1
    have h6 := dE_snoc f x hf
    cases x with
    | none =>
      have h2 := sig_dash hs
      rw [h2] at h1 ⊢
      have h6 : addD (dE f) (.tuple [.list [.none, .int 10]]) = some (.dat (dE (f ++ [none]))) := h6
      simp [h1, hf, dash_ix, t1, t2, h6, mul1]
    | some n =>
      obtain ⟨h3, h2⟩ := sig_lt hs
      rw [h2] at h1 ⊢
      have h4 := sg_ne n h3
      have h5 := sg_ix h3
      have h6 : addD (dE f) (.tuple [.list [.int (n : Int)]]) = some (.dat (dE (f ++ [some n]))) := h6
      simp [h1, hf, h4, h5, t1, h6, mul0]
theorem rl_loop {s0 s3 : S} : ∀ (l : List Nat) (f : Row) (s2 : S), f.length + l.length < LIM →
    match sigs l with
    | none => forGo none (.one 2) rlB (l.map one) [s0, .dat (dE f), s2, s3] [] = some (.rt (.dat .none) [])
    | some r => ∃ s2', forGo none (.one 2) rlB (l.map one) [s0, .dat (dE f), s2, s3] [] = some (.nx [s0, .dat (dE (f ++ r)), s2', s3] [])
  | [], f, s2, h => by
    rw [show ([] : List Nat).map one = [] from rfl, forGo_nil0]
    exact ⟨s2, by simp⟩
  | a :: l, f, s2, h => by
    rw [List.length_cons] at h
    have e := rl_turn (s0 := s0) (s3 := s3) (a := a) (f := f) (by omega)
    have e1 : forGo none (.one 2) rlB ((a :: l).map one) [s0, .dat (dE f), s2, s3] [] = (rlB [s0, .dat (dE f), .dat (one a), s3] []).bind (fgK none (.one 2) rlB (l.map one)) := by
      rw [List.map_cons, forGo_cons1]; rfl
    rw [e1, e]
    unfold sigs
    cases hs : sig a with
    | none => exact rfl
    | some x =>
      have ih := rl_loop (s0 := s0) (s3 := s3) l (f ++ [x]) (.dat (one a)) (by rw [List.length_append, List.length_singleton]; omega)
      simp only [bind_some', fgK_nx]
      cases hr : sigs l with
      | none => rw [hr] at ih; exact ih
      | some r =>
        rw [hr] at ih
        obtain ⟨s2', e2⟩ := ih
        refine ⟨s2', e2.trans ?_⟩
        simp
theorem sigs_len : ∀ {l : List Nat} {r : Row}, sigs l = some r → r.length = l.length
  | [], r, h => by cases h; rfl
  | a :: l, r, h => by
    unfold sigs at h
    split at h
    · cases h
    · rw [Option.map_eq_some_iff] at h
      obtain ⟨q, h1, rfl⟩ := h
      rw [List.length_cons, sigs_len h1, List.length_cons]
theorem sigs_ok : ∀ {l : List Nat} {r : Row}, sigs l = some r → ∀ x ∈ r, ∀ n, x = some n → n < 10
  | [], r, h => by cases h; intro x hx; cases hx
  | a :: l, r, h => by
    unfold sigs at h
    split at h
    · cases h
    · rename_i y hy
      rw [Option.map_eq_some_iff] at h
      obtain ⟨q, h1, rfl⟩ := h
      intro x hx n hn
      rcases List.mem_cons.mp hx with rfl | hx
      · subst hn; exact (sig_lt hy).1
      · exact sigs_ok h1 x hx n hn
theorem row_ok {x : Str} {r : Row} (h : row? x = some r) : RowOk r.length r ∧ 1 ≤ r.length ∧ r.length ≤ 4 := by
  unfold row? at h
  split at h
  · rename_i h1
    have h2 := sigs_len h
    rw [← len_tl] at h2
    exact ⟨⟨rfl, sigs_ok h⟩, by omega, by omega⟩
  · cases h
theorem unE (f : Row) (sl : List S) (k : Nat) (hk : k < sl.length) (hf : f.length ≤ LIM) : lcGo none (.one k) dYes (dOp idxD (dVar k) (dC (.int 0))) sl (f.map eL) 0 [] = some (f.map oD, []) := by
  refine lcGo_mapL rfl eL oD f 0 (by omega) fun w hm => ⟨_, .dat (oD w), rfl, ?_, ?_⟩
  · cases w with
    | none => simp [hk, eL, oD, at_zero]
    | some n => simp [hk, eL, oD, at_zero]
  · simp [im_oD]
theorem r_row_readL {x : Str} (hx : x.length < LIM) : run__law_row_read [.str x] = some (.dat (oR (row? x))) := by
  have key := rl_loop (s0 := .dat (.str x)) (s3 := .un) (tl x) [] .un (by rw [← len_tl]; simpa using hx)
  have hpre : ∀ q : DS, (dSeq (dSet 1 (dTup (dNil))) (dSeq (dFor (dItS (dVar 0)) (.one 2) rlB) q)) [.dat (.str x), .un, .un, .un] [] = (forGo none (.one 2) rlB ((tl x).map one) [.dat (.str x), .dat (dE []), .un, .un] []).bind (sqK q) := by
    intro q
    have e4 : strItems x = (tl x).map one := rfl
    simp [e4, dE]
  refine runD_rt rfl ?_ (im_oR _)
  show Rt (d__law_row_read [.dat (.str x), .un, .un, .un] []) _ _
  have hb := hpre (dSeq (dIf (dOrT (dTst (dOp ltD (dCall lenD (dCons (dVar 1) (dNil))) (dC (.int 1)))) (dTst (dOp gtD (dCall lenD (dCons (dVar 1) (dNil))) (dC (.int 4))))) (dRet (dC .none)) (dNext)) (dRet (dCall tupleD (dCons (dLc (dItS (dVar 1)) (.one 3) (dYes) (dOp idxD (dVar 3) (dC (.int 0))) [3]) (dNil)))))
  unfold rlB at hb
  unfold d__law_row_read
  rw [hb]
  have key' := key
  unfold rlB at key'
  unfold row?
  cases hs : sigs (tl x) with
  | none =>
    rw [hs] at key'
    simp only [] at key'
    rw [key']
    have : (if 1 ≤ x.length ∧ x.length ≤ 4 then (none : Option Row) else none) = none := by split <;> rfl
    rw [this]
    simp [oR]
  | some r =>
    rw [hs] at key'
    obtain ⟨s2', e⟩ := key'
    have hl := sigs_len hs
    rw [← len_tl] at hl
    rw [e, List.nil_append]
    have hlen : lenD [dE r] = some (.dat (.int (r.length : Int))) := by
      show some (A.dat (.int ((r.map eL).length : Int))) = _
      rw [List.length_map]
    by_cases h : 1 ≤ x.length ∧ x.length ≤ 4
    · have h1 : ¬ (r.length : Int) < 1 := by omega
      have h2 : ¬ (4 : Int) < (r.length : Int) := by omega
      have h3 := unE r [.dat (.str x), .dat (dE r), s2', .un] 3 (by simp) (by unfold LIM; omega)
      have h4 : itemsOf [] (.dat (dE r)) = some (r.map eL, none) := rfl
      simp [hlen, h1, h2, h, oR, h4, h3, dR]
    · by_cases h1 : 1 ≤ x.length
      · have h2 : (4 : Int) < (r.length : Int) := by omega
        have h3 : ¬ (r.length : Int) < 1 := by omega
        simp [hlen, h2, h3, h, oR]
      · have h3 : (r.length : Int) < 1 := by omega
        simp [hlen, h3, h, oR]
end K75
set_option Elab.async false
set_option linter.all false
set_option maxRecDepth 100000
set_option maxHeartbeats 1000000
namespace K75
open PySem L2 DD TL StrLaws
def bad (f : List Row) (r : Row) : Bool := match f with
  | [] => false
  | a :: _ => !decide (r.length = a.length)
def goR : Nat → List Str → Nat → List Row → Rd (List Row)
  | 0, [], _, f => .ok f
  | 0, _ :: _, i, _ => .error i
  | _ + 1, [], i, _ => .error i
  | n + 1, x :: r, i, f => match row? x with
    | none => .error i
    | some a => if bad f a = true then .error i else goR n r (i + 1) (f ++ [a])
def rdB : DXS := xSeq (xIf (xT (dTst (dOp eqO (dVar 4) (dCall lenD (dCons (dVar 0) (dNil)))))) (xRaise "InvalidWords" "place" (dCons (dVar 4) (dNil))) (xS (dNext))) (xSeq (xS (dSet 5 (dFn run_row_read (dCons (dOp idxD (dVar 0) (dVar 4)) (dNil))))) (xSeq (xIf (xT (dOrT (dTst (dOp isD (dVar 5) (dC .none))) (dAndT (dTst (dOp neO (dVar 3) (dLst (dNil)))) (dTst (dOp neO (dCall lenD (dCons (dVar 5) (dNil))) (dCall lenD (dCons (dOp idxD (dVar 3) (dC (.int 0))) (dNil)))))))) (xRaise "InvalidWords" "place" (dCons (dVar 4) (dNil))) (xS (dNext))) (xS (dApp 3 (dVar 5)))))
theorem lay_oD : ∀ r : Row, PyData.canLayAll0 (r.map oD) = true ∧ PyData.depthAll (r.map oD) = 0
  | [] => ⟨rfl, by simp only [List.map_nil, PyData.depthAll]⟩
  | a :: l => ⟨by rw [List.map_cons, PyData.canLayAll0, (lay_oD l).1]; cases a <;> rfl, by rw [List.map_cons, PyData.depthAll, (lay_oD l).2]; cases a <;> simp only [oD, nD, PyData.depth] <;> rfl⟩
theorem lay_dR : ∀ f : List Row, PyData.canLayAll0 (f.map dR) = true ∧ PyData.depthAll (f.map dR) ≤ 1
  | [] => ⟨rfl, by simp only [List.map_nil, PyData.depthAll]; omega⟩
  | a :: l => ⟨by rw [List.map_cons, PyData.canLayAll0, (lay_dR l).1, Bool.and_true]; unfold dR; rw [PyData.canLay0]; exact (lay_oD a).1, by
    rw [List.map_cons, PyData.depthAll]
    have h1 := (lay_dR l).2
    have h2 : PyData.depth (dR a) = 1 := by unfold dR; rw [PyData.depth, (lay_oD a).2]
    omega⟩
theorem eq_R0 (f : List Row) : eqD (.list (f.map dR)) (.list []) = some (decide (f = [])) := by
  have h1 : SeqAt.shaped (.list (f.map dR)) = true := by
    unfold SeqAt.shaped
    rw [PyData.canLay0, (lay_dR _).1, PyData.depth]
    have := (lay_dR f).2
    simp; omega
  have h2 : SeqAt.shaped (.list []) = true := by decide
  unfold eqD
  cases f with
  | nil => decide +kernel
  | cons a l =>
    simp only [eqS, h1, h2, Bool.and_self, if_true]
    simp only [List.map_cons, PyData.eqv, PyData.eqvAll]
    simp
theorem eq_RT (f : List Row) : eqD (.tuple (f.map dR)) (.tuple []) = some (decide (f = [])) := by
  have h1 : SeqAt.shaped (.tuple (f.map dR)) = true := by
    unfold SeqAt.shaped
    rw [PyData.canLay0, (lay_dR _).1, PyData.depth]
    have := (lay_dR f).2
    simp; omega
  have h2 : SeqAt.shaped (.tuple []) = true := by decide
  unfold eqD
  cases f with
  | nil => decide +kernel
  | cons a l =>
    simp only [eqS, h1, h2, Bool.and_self, if_true]
    simp only [List.map_cons, PyData.eqv, PyData.eqvAll]
    simp
theorem len_dR (r : Row) : lenD [dR r] = some (.dat (.int (r.length : Int))) := by
  show some (A.dat (.int ((r.map oD).length : Int))) = _
  rw [List.length_map]
theorem isNon_oR (x : Option Row) : isNonD (oR x) = x.isNone := by cases x <;> rfl
theorem rd_end {L : List Str} {a b i : Nat} {f : List Row} {s5 : S} (h : i = L.length) :
    rdB [.dat (sL L), .dat (nD a), .dat (nD b), .ref 0, .dat (nD i), s5] [f.map dR] = some (.ex (ew i) [.dat (sL L), .dat (nD a), .dat (nD b), .ref 0, .dat (nD i), s5] [f.map dR]) := by
  have h2 : (i : Int) = (L.length : Int) := by omega
  unfold rdB
  simp [sL, nD, h2, ew]
theorem rd_turn {L : List Str} {a b i : Nat} {x : Str} {r : List Str} {f : List Row} {s5 : S} (h : L.drop i = x :: r) (hi : i < L.length) (hx : x.length < LIM) (hf : f.length ≤ 100) :
    ∃ s5', rdB [.dat (sL L), .dat (nD a), .dat (nD b), .ref 0, .dat (nD i), s5] [f.map dR] = match row? x with
      | none => some (.ex (ew i) [.dat (sL L), .dat (nD a), .dat (nD b), .ref 0, .dat (nD i), s5'] [f.map dR])
      | some p => if bad f p = true then some (.ex (ew i) [.dat (sL L), .dat (nD a), .dat (nD b), .ref 0, .dat (nD i), s5'] [f.map dR]) else some (.r (.nx [.dat (sL L), .dat (nD a), .dat (nD b), .ref 0, .dat (nD i), s5'] [(f ++ [p]).map dR])) := by
  refine ⟨.dat (oR (row? x)), ?_⟩
  have h3 := at_drop h
  have h4 := r_row_read hx
  have h2 : ¬ (i : Int) = (L.length : Int) := by omega
  have hl : f.length < LIM := by unfold LIM; omega
  have h5 := eq_R0 f
  unfold rdB
  cases hw : row? x with
  | none =>
    rw [hw] at h4
    simp [sL, nD, h3, h4, oR, ew, h2]
  | some p =>
    rw [hw] at h4
    have h6 := len_dR p
    have h9 := im_dR p
    have h10 : isNonD (dR p) = false := rfl
    cases f with
    | nil =>
      have h5 : eqD (.list []) (.list []) = some true := by decide +kernel
      have h7 : 0 < LIM := by decide
      simp [sL, nD, h3, h4, oR, h2, h5, h9, h10, bad, h7]
    | cons q f =>
      have h7 := len_dR q
      have h11 : (p.length : Int) = (q.length : Int) ↔ p.length = q.length := by omega
      have h5 : eqD (.list (dR q :: f.map dR)) (.list []) = some false := h5
      have hl : f.length + 1 < LIM := hl
      by_cases hb : p.length = q.length
      · simp [sL, nD, h3, h4, oR, h2, h5, h6, h7, h9, h10, at_zero, bad, hb, hl]
      · simp [sL, nD, h3, h4, oR, h2, h5, h6, h7, h9, h10, at_zero, bad, hb, h11, ew]
def rdQ : DXS := (xSeq (xIf (xT (dTst (dOp gtD (dCall lenD (dCons (dVar 0) (dNil))) (dOp addD (dVar 1) (dVar 2))))) (xRaise "InvalidWords" "place" (dCons (dOp addD (dVar 1) (dVar 2)) (dNil))) (xS (dNext))) (xS (dRet (dCall tupleD (dCons (dVar 3) (dNil))))))
theorem rd_loop {L : List Str} {a b : Nat} (hL : LOk L) : ∀ (n i : Nat) (r : List Str) (f : List Row) (s4 s5 : S), L.drop i = r → i ≤ L.length → f.length + n ≤ 100 → a + b = i + n →
    match goR n r i f with
    | .ok g => ∃ io, (forGoX none (.one 4) rdB (rngItems i n) [.dat (sL L), .dat (nD a), .dat (nD b), .ref 0, s4, s5] [f.map dR]).bind (xsqK rdQ) = some (.r (.rt (.dat (.tuple (g.map dR))) io))
    | .error j => ∃ sl io, (forGoX none (.one 4) rdB (rngItems i n) [.dat (sL L), .dat (nD a), .dat (nD b), .ref 0, s4, s5] [f.map dR]).bind (xsqK rdQ) = some (.ex (ew j) sl io)
  | 0, i, [], f, s4, s5, h, hi, hf, hab => by
    have hl := drop_len h hi
    have h1 : ¬ (a : Int) + (b : Int) < (L.length : Int) := by simp at hl; omega
    refine ⟨[f.map dR], ?_⟩
    rw [rng_nil, forGoX_nil0]
    unfold rdQ
    simp [sL, nD, h1]
  | 0, i, x :: r, f, s4, s5, h, hi, hf, hab => by
    have hl := drop_len h hi
    have h1 : (a : Int) + (b : Int) < (L.length : Int) := by simp at hl; omega
    have h2 : (a : Int) + (b : Int) = (i : Int) := by omega
    refine ⟨[.dat (sL L), .dat (nD a), .dat (nD b), .ref 0, s4, s5], [f.map dR], ?_⟩
    rw [rng_nil, forGoX_nil0]
    unfold rdQ
    rw [h2] at h1
    simp [sL, nD, h1, ew, h2]
  | n + 1, i, [], f, s4, s5, h, hi, hf, hab => by
    have hl := drop_len h hi
    have e := rd_end (L := L) (a := a) (b := b) (f := f) (s5 := s5) (i := i) (by simp at hl; omega)
    refine ⟨[.dat (sL L), .dat (nD a), .dat (nD b), .ref 0, .dat (nD i), s5], [f.map dR], ?_⟩
    · rw [rng_succ, forGoX_cons1]
      show ((rdB [.dat (sL L), .dat (nD a), .dat (nD b), .ref 0, .dat (nD i), s5] [f.map dR]).bind _).bind _ = _
      rw [e]; rfl
  | n + 1, i, x :: r, f, s4, s5, h, hi, hf, hab => by
    have hl := drop_len h hi
    rw [List.length_cons] at hl
    obtain ⟨s5', e⟩ := rd_turn (a := a) (b := b) (f := f) (s5 := s5) h (by omega) (hL.1 x (drop_mem h)).1 (by omega)
    have e1 : forGoX none (.one 4) rdB (rngItems i (n + 1)) [.dat (sL L), .dat (nD a), .dat (nD b), .ref 0, s4, s5] [f.map dR] = (rdB [.dat (sL L), .dat (nD a), .dat (nD b), .ref 0, .dat (nD i), s5] [f.map dR]).bind (fgxK none (.one 4) rdB (rngItems ((i : Int) + 1) n)) := by
      rw [rng_succ, forGoX_cons1]; rfl
    rw [e1, e]
    unfold goR
    cases hw : row? x with
    | none => exact ⟨_, _, rfl⟩
    | some w =>
      simp only []
      by_cases hl : bad f w = true
      · rw [if_pos hl, if_pos hl]; exact ⟨_, _, rfl⟩
      · rw [if_neg hl, if_neg hl, bind_some', fgxK_nx, i_succ]
        exact rd_loop hL n (i + 1) r (f ++ [w]) (.dat (nD i)) s5' (drop_next h) (by omega) (by rw [List.length_append, List.length_singleton]; omega) (by omega)
theorem r_rows_read {L : List Str} {first n : Nat} (hL : LOk L) (hf : first ≤ L.length) (hn : n ≤ 100) : run_rows_read [sL L, nD first, nD n] = some (fo ((goR n (L.drop first) first []).map fun g => .tuple (g.map dR))) := by
  have hl := hL.2
  have key := rd_loop (a := first) (b := n) hL n first _ [] .un .un rfl hf (by simp; omega) rfl
  have hit : rng2K ([.dat (.int (first : Int)), .dat (.int ((first : Int) + (n : Int)))], [[]]) = some ((rngItems (first : Int) n, none), [[]]) := rng2K_ap rfl (by omega) (by omega)
  have hb : d_rows_read (slots 6 ([sL L, nD first, nD n].map .dat)) [] = (forGoX none (.one 4) rdB (rngItems first n) [.dat (sL L), .dat (nD first), .dat (nD n), .ref 0, .un, .un] [[]]).bind (xsqK rdQ) := by
    unfold d_rows_read
    have hpre : ∀ (p q : DXS), (xSeq (xS (dOwn 3 (dLst (dNil)))) (xSeq (xFor (dItR2 (dCons (dVar 1) (dCons (dOp addD (dVar 1) (dVar 2)) (dNil)))) (.one 4) p) q)) (slots 6 ([sL L, nD first, nD n].map .dat)) [] = (forGoX none (.one 4) p (rngItems first n) [.dat (sL L), .dat (nD first), .dat (nD n), .ref 0, .un, .un] [[]]).bind (xsqK q) := by
      intro p q
      simp [slots, nD, hit]
    rw [hpre]
    rfl
  cases hg : goR n (L.drop first) first [] with
  | ok g =>
    rw [hg] at key
    obtain ⟨io, e⟩ := key
    exact runX_dat rfl ⟨io, hb.trans e⟩ (by show imAll _ = true; simp)
  | error j =>
    rw [hg] at key
    obtain ⟨sl, io, e⟩ := key
    exact runX_ex rfl ⟨sl, io, hb.trans e⟩
theorem goR_ok : ∀ {n : Nat} {r : List Str} {i k : Nat} {f g : List Row}, goR n r i f = .ok g → (∀ x ∈ f, RowOk k x) → (f ≠ [] → 1 ≤ k ∧ k ≤ 4) → (f = [] → n ≠ 0) → ∃ k, 1 ≤ k ∧ k ≤ 4 ∧ (∀ x ∈ g, RowOk k x) ∧ g.length = f.length + n
  | 0, [], i, k, f, g, h, hk, hk2, hn => by
    cases h
    by_cases h0 : f = []
    · exact absurd rfl (hn h0)
    · exact ⟨k, (hk2 h0).1, (hk2 h0).2, hk, rfl⟩
  | 0, _ :: _, i, k, f, g, h, hk, hk2, hn => by cases h
  | n + 1, [], i, k, f, g, h, hk, hk2, hn => by cases h
  | n + 1, x :: r, i, k, f, g, h, hk, hk2, hn => by
    unfold goR at h
    split at h
    · cases h
    · rename_i a ha
      obtain ⟨h1, h2, h3⟩ := row_ok ha
      split at h
      · cases h
      · rename_i hb
        have : ∃ k', (∀ y ∈ f ++ [a], RowOk k' y) ∧ 1 ≤ k' ∧ k' ≤ 4 := by
          cases f with
          | nil => exact ⟨a.length, by intro y hy; rw [List.nil_append, List.mem_singleton] at hy; subst hy; exact h1, h2, h3⟩
          | cons q f =>
            have hq := hk q List.mem_cons_self
            have hbb : a.length = q.length := by
              simp only [bad, Bool.not_eq_true', decide_eq_false_iff_not, Decidable.not_not] at hb
              exact hb
            obtain ⟨k1, k2⟩ := hk2 (by simp)
            refine ⟨k, fun y hy => ?_, k1, k2⟩
            rcases List.mem_append.mp hy with hy | hy
            · exact hk y hy
            · rw [List.mem_singleton] at hy
              subst hy
              have := hq.1
              exact ⟨by omega, h1.2⟩
        obtain ⟨k', g1, g2, g3⟩ := this
        obtain ⟨k2, e1, e2, e3, e4⟩ := goR_ok (k := k') h g1 (fun _ => ⟨g2, g3⟩) (by simp)
        exact ⟨k2, e1, e2, e3, by rw [e4, List.length_append, List.length_singleton]; omega⟩
end K75
set_option Elab.async false
set_option linter.all false
set_option maxRecDepth 100000
set_option maxHeartbeats 1000000
namespace K75
open PySem L2 DD TL StrLaws
theorem upto_split (a : Nat) : ∀ r : List Str, ∃ t, r = upto a r ++ t ∧ (t = [] ∨ ∃ y t', t = y :: t' ∧ stops a y = true)
  | [] => ⟨[], rfl, .inl rfl⟩
  | x :: r => by
    unfold upto
    by_cases h : stops a x = true
    · rw [if_pos h]; exact ⟨x :: r, rfl, .inr ⟨x, r, rfl, h⟩⟩
    · rw [if_neg h]
      obtain ⟨t, h1, h2⟩ := upto_split a r
      exact ⟨t, by rw [List.cons_append, ← h1], h2⟩
theorem way_any (x : Str) : inD (.str x) (.tuple [.str "key", .str "bundle"]) = some (decide (x = "key" ∨ x = "bundle")) := by
  have : inD (.str x) (.tuple [.str "key", .str "bundle"]) = some (inAny (.str x) [.str "key", .str "bundle"]) := rfl
  rw [this]
  unfold inAny
  simp only [List.any_cons, List.any_nil, PyData.eqv, Bool.or_false]
  congr 1
  by_cases h1 : x = "key"
  · subst h1; simp
  · by_cases h2 : x = "bundle"
    · subst h2; simp
    · simp [h1, h2, Ne.symm h1, Ne.symm h2]
theorem way_anyL (x : Str) : inD (.str x) (.list [.str "key", .str "bundle"]) = some (decide (x = "key" ∨ x = "bundle")) := way_any x
theorem r_is_way' (x : Str) : run_is_way [.str x] = some (.dat (.bool (decide (x = "key" ∨ x = "bundle")))) := by
  have h := way_any x
  have t2 := two_lim
  refine runD_rt rfl ?_ rfl
  unfold d_is_way
  simp [slots, h, t2]
def bookR (L : List Str) : Rd D := match L with
  | [] => .error 0
  | m :: r => if m = "key" ∨ m = "bundle" then (match wrld 1 r with
    | .error j => .error j
    | .ok ps => match L.drop (ps.length + 2) with
      | [] => .error (ps.length + 2)
      | _ :: t => (goR (ps.length + 1) t (ps.length + 3) []).map fun g => dK ps m g) else .error 0
theorem bookR_cons {m : Str} {r : List Str} : bookR (m :: r) = if m = "key" ∨ m = "bundle" then (match wrld 1 r with
    | .error j => .error j
    | .ok ps => match (m :: r).drop (ps.length + 2) with
      | [] => .error (ps.length + 2)
      | _ :: t => (goR (ps.length + 1) t (ps.length + 3) []).map fun g => dK ps m g) else .error 0 := rfl
def atT : DT := dAndT (dTst (dOp ltD (dVar 2) (dCall lenD (dCons (dVar 1) (dNil))))) (dTst (dOp neO (dOp idxD (dVar 1) (dVar 2)) (dC (.str "rows"))))
def atB : DS := dAugI 2 (fun i j => some (i + j)) (dC (.int 1))
theorem at_loop {L : List Str} {s0 s3 : S} : ∀ (r : List Str) (i fuel : Nat), L.drop i = r → r.length < fuel → i ≤ L.length →
    whGo atT atB fuel [s0, .dat (sL L), .dat (nD i), s3] [] = some (.nx [s0, .dat (sL L), .dat (nD (i + (upto 1 r).length)), s3] [])
  | [], i, 0, h, hf, hi => by simp at hf
  | [], i, fuel + 1, h, hf, hi => by
    have hl := drop_len h hi
    have h1 : ¬ (i : Int) < (L.length : Int) := by simp at hl; omega
    have et : atT [s0, .dat (sL L), .dat (nD i), s3] [] = some (false, []) := by
      unfold atT
      simp [sL, nD, h1]
    unfold whGo
    rw [et]; rfl
  | x :: r, i, 0, h, hf, hi => by simp at hf
  | x :: r, i, fuel + 1, h, hf, hi => by
    have hl := drop_len h hi
    rw [List.length_cons] at hl hf
    have h1 : (i : Int) < (L.length : Int) := by omega
    have h3 := at_drop h
    have et : atT [s0, .dat (sL L), .dat (nD i), s3] [] = some (!stops 1 x, []) := by
      unfold atT stops
      simp [sL, nD, h1, h3]
    unfold whGo
    rw [et]
    unfold upto
    by_cases hs : stops 1 x = true
    · rw [hs]; rfl
    · have hs' : stops 1 x = false := by simpa using hs
      have eb : atB [s0, .dat (sL L), .dat (nD i), s3] [] = some (.nx [s0, .dat (sL L), .dat (nD (i + 1)), s3] []) := by
        unfold atB
        simp [nD]
      rw [hs']
      simp only [bind_some', Bool.not_false, if_true, eb, Bool.false_eq_true, if_false]
      rw [at_loop r (i + 1) fuel (drop_next h) (by omega) (by omega)]
      rw [List.length_cons, show i + 1 + (upto 1 r).length = i + ((upto 1 r).length + 1) by omega]
def rcS : DXS := (xSeq (xIf (xT (dTst (dOp eqO (dVar 2) (dCall lenD (dCons (dVar 1) (dNil)))))) (xRaise "InvalidWords" "place" (dCons (dVar 2) (dNil))) (xS (dNext))) (xRet (xTup (xCons (xE (dVar 3)) (xCons (xE (dOp idxD (dVar 1) (dC (.int 0)))) (xCons (xFn run_rows_read (dCons (dVar 1) (dCons (dOp addD (dVar 2) (dC (.int 1))) (dCons (dCall lenD (dCons (dVar 3) (dNil))) (dNil))))) (xNil)))))))
def rcR : DXS := (xSeq (xSet 3 (xFn run_parents_read (dCons (dVar 1) (dCons (dC (.int 2)) (dCons (dVar 2) (dNil)))))) rcS)
def rcQ : DXS := (xSeq (xS (dSet 2 (dC (.int 2)))) (xSeq (xS (whGo atT atB FUEL)) rcR))
theorem head_at {m : Str} {r : List Str} : atI ((m :: r).map PyData.str) 0 = some (.str m) := at_zero _ _
theorem len_dT (ps : List Nat) : lenD [dT ps] = some (.dat (.int ((ps.length : Int) + 1))) := lenT ps
theorem r_read_catalog {L : List Str} {w : Str} (hw : splitD w [.str " "] = some (.tmp (L.map .str))) (h0 : L ≠ []) (hL : LOk L) (hl : L.length ≤ 2900) : run_read_catalog [.str w] = some (fo (bookR L)) := by
  cases L with
  | nil => exact absurd rfl h0
  | cons m r =>
    rw [bookR_cons]
    have hm := head_at (m := m) (r := r)
    have hw' := r_is_way' m
    have t3 : 3 ≤ LIM := by decide
    have hlen : lenD [sL (m :: r)] = some (.dat (.int ((r.length : Int) + 1))) := by
      rw [len_sL]; rfl
    simp only [sL] at hlen
    rw [List.map_cons] at hm hlen
    have hpre : ∀ q : DXS, (xSeq (xS (dSet 1 (dMeth splitD (dVar 0) (dCons (dC (.str " ")) (dNil))))) q) (slots 4 ([PyData.str w].map .dat)) [] = q [.dat (.str w), .dat (sL (m :: r)), .un, .un] [] := by
      intro q
      simp [slots, -splitD_str, hw, sL]
    by_cases hm1 : m = "key" ∨ m = "bundle"
    · rw [if_pos hm1]
      have hpre2 : ∀ q : DXS, (xSeq (xIf (xT (dNotT (dTru (dFn run_is_way (dCons (dOp idxD (dVar 1) (dC (.int 0))) (dNil)))))) (xRaise "InvalidWords" "place" (dCons (dC (.int 0)) (dNil))) (xS (dNext))) q) [.dat (.str w), .dat (sL (m :: r)), .un, .un] [] = q [.dat (.str w), .dat (sL (m :: r)), .un, .un] [] := by
        intro q
        rw [decide_eq_true hm1] at hw'
        simp [sL, at_zero, hw']
      have hQ : d_read_catalog (slots 4 ([PyData.str w].map .dat)) [] = (xSeq (xIf (xT (dOrT (dTst (dOp eqO (dCall lenD (dCons (dVar 1) (dNil))) (dC (.int 1)))) (dTst (dOp neO (dOp idxD (dVar 1) (dC (.int 1))) (dC (.str "tree")))))) (xRaise "InvalidWords" "place" (dCons (dC (.int 1)) (dNil))) (xS (dNext))) rcQ) [.dat (.str w), .dat (sL (m :: r)), .un, .un] [] := by
        unfold d_read_catalog
        rw [hpre, hpre2]; rfl
      cases r with
      | nil =>
        refine runX_ex rfl ?_
        rw [hQ]
        simp [sL, ew, nD]
      | cons x r =>
        have hx1 : atI (PyData.str m :: PyData.str x :: r.map .str) 1 = some (.str x) := at1 _ _ _
        have hn1 : ¬ ((r.length : Int) + 1 + 1 = 1) := by omega
        rw [wrld_cons]
        by_cases hx : x = "tree"
        · rw [if_pos hx]
          subst hx
          have hQ2 : d_read_catalog (slots 4 ([PyData.str w].map .dat)) [] = rcQ [.dat (.str w), .dat (sL (m :: "tree" :: r)), .un, .un] [] := by
            rw [hQ]
            simp [sL, hx1, hn1]
          obtain ⟨t, ht, htt⟩ := upto_split 1 r
          have hd2 : (m :: "tree" :: r).drop 2 = upto 1 r ++ t := ht
          have hlr : r.length = (upto 1 r).length + t.length := by
            conv => lhs; rw [ht]
            rw [List.length_append]
          have hat := at_loop (L := m :: "tree" :: r) (s0 := .dat (.str w)) (s3 := .un) r 2 FUEL rfl (by simp at hl; unfold FUEL; omega) (by simp)
          have hpr := r_parents_read (L := m :: "tree" :: r) (first := 2) (last := 2 + (upto 1 r).length) hL hd2 rfl (by simp; omega)
          have hQ3 : d_read_catalog (slots 4 ([PyData.str w].map .dat)) [] = rcR [.dat (.str w), .dat (sL (m :: "tree" :: r)), .dat (nD (2 + (upto 1 r).length)), .un] [] := by
            rw [hQ2]
            unfold rcQ
            have e2 : (xS (dSet 2 (dC (.int 2)))) [.dat (.str w), .dat (sL (m :: "tree" :: r)), .un, .un] [] = some (.r (.nx [.dat (.str w), .dat (sL (m :: "tree" :: r)), .dat (nD 2), .un] [])) := rfl
            rw [xSeq_ap, e2, bind_some', xsqK_nx, xSeq_ap, xS_ap, hat]
            rfl
          have hlen2 := len_sL (m :: "tree" :: r)
          cases hg : goT (upto 1 r) 2 [] with
          | error j =>
            rw [hg] at hpr
            refine runX_ex rfl ?_
            rw [hQ3]
            unfold rcR
            have hpr' : run_parents_read [sL (m :: "tree" :: r), .int 2, nD (2 + (upto 1 r).length)] = some (.ex (ew j)) := hpr
            simp [hpr']
          | ok ps =>
            rw [hg] at hpr
            obtain ⟨hps, hpl⟩ := goT_ok hg ⟨by simp, by intro i p h; cases h⟩
            rw [List.length_nil, Nat.zero_add] at hpl
            have hd3 : (m :: "tree" :: r).drop (ps.length + 2) = t := by
              rw [Nat.add_comm, ← List.drop_drop, hd2, hpl, List.drop_left]
            have hls : run_parents_read [sL (m :: "tree" :: r), .int 2, nD (2 + (upto 1 r).length)] = some (.ok (.dat (dT ps))) := hpr
            simp only []
            rw [hd3]
            have hat2 : (2 + (upto 1 r).length) = ps.length + 2 := by omega
            rw [hat2] at hls hQ3
            have hQ4 : d_read_catalog (slots 4 ([PyData.str w].map .dat)) [] = rcS [.dat (.str w), .dat (sL (m :: "tree" :: r)), .dat (nD (ps.length + 2)), .dat (dT ps)] [] := by
              rw [hQ3]
              unfold rcR
              simp [hls]
            cases t with
            | nil =>
              have he : (ps.length : Int) + 2 = (r.length : Int) + 1 + 1 := by simp at hlr; omega
              refine runX_ex rfl ?_
              rw [hQ4]
              unfold rcS
              simp [hlen2, nD, he, ew]
            | cons y t =>
              have he : ¬ ((ps.length : Int) + 2 = (r.length : Int) + 1 + 1) := by simp at hlr; omega
              have hps9 := hps.1
              have hrr := r_rows_read (L := m :: "tree" :: r) (first := ps.length + 3) (n := ps.length + 1) hL (by simp at hlr ⊢; omega) (by omega)
              have hd4 : (m :: "tree" :: r).drop (ps.length + 3) = t := drop_next hd3
              rw [hd4] at hrr
              have hrr' : run_rows_read [sL (m :: "tree" :: r), .int ((ps.length : Int) + 2 + 1), .int ((ps.length : Int) + 1)] = _ := hrr
              have hlt := len_dT ps
              simp only []
              have hix : idxD (sL (m :: "tree" :: r)) (.int 0) = some (.dat (.str m)) := by
                show (atI ((m :: ("tree" :: r)).map PyData.str) 0).map _ = _
                rw [head_at]; rfl
              cases hr : goR (ps.length + 1) t (ps.length + 3) [] with
              | error j =>
                rw [hr] at hrr'
                have hrr2 : run_rows_read [sL (m :: "tree" :: r), .int ((ps.length : Int) + 2 + 1), .int ((ps.length : Int) + 1)] = some (.ex (ew j)) := hrr'
                refine runX_ex rfl ?_
                rw [hQ4]
                unfold rcS
                simp [hlen2, nD, he, ew, hlt, hrr2, hix]
              | ok g =>
                rw [hr] at hrr'
                have hrr2 : run_rows_read [sL (m :: "tree" :: r), .int ((ps.length : Int) + 2 + 1), .int ((ps.length : Int) + 1)] = some (.ok (.dat (.tuple (g.map dR)))) := hrr'
                refine runX_dat rfl ?_ (im_dK _ _ _)
                rw [hQ4]
                unfold rcS
                simp [hlen2, nD, he, hlt, hrr2, hix, dK, t3]
        · rw [if_neg hx]
          refine runX_ex rfl ?_
          rw [hQ]
          simp [sL, hx1, hn1, hx, ew, nD]
    · rw [if_neg hm1]
      refine runX_ex rfl ?_
      unfold d_read_catalog
      rw [hpre]
      rw [decide_eq_false hm1] at hw'
      simp [sL, at_zero, hw', ew, nD]
end K75
set_option Elab.async false
set_option linter.all false
set_option maxRecDepth 100000
set_option maxHeartbeats 1000000
namespace K75
open PySem L2 DD TL StrLaws
def rbB : DS := (dSeq (dSet 6 (dC .none)) (dSeq (dIf (dTst (dOp ltD (dOp addD (dOp addD (dVar 3) (dC (.int 1))) (dVar 5)) (dCall lenD (dCons (dVar 0) (dNil))))) (dSet 6 (dFn run__law_row_read (dCons (dOp idxD (dVar 0) (dOp addD (dOp addD (dVar 3) (dC (.int 1))) (dVar 5))) (dNil)))) (dNext)) (dSeq (dIf (dOrT (dTst (dOp isD (dVar 6) (dC .none))) (dAndT (dTst (dOp neO (dVar 4) (dTup (dNil)))) (dTst (dOp neO (dCall lenD (dCons (dVar 6) (dNil))) (dCall lenD (dCons (dOp idxD (dVar 4) (dC (.int 0))) (dNil))))))) (dRet (dTup (dCons (dC .none) (dCons (dOp addD (dOp addD (dVar 3) (dC (.int 1))) (dVar 5)) (dNil))))) (dNext)) (dSet 4 (dOp addD (dVar 4) (dTup (dCons (dVar 6) (dNil))))))))
def rbQ : DS := (dSeq (dIf (dTst (dOp gtD (dCall lenD (dCons (dVar 0) (dNil))) (dOp addD (dOp addD (dVar 3) (dC (.int 1))) (dCall lenD (dCons (dVar 1) (dNil)))))) (dRet (dTup (dCons (dC .none) (dCons (dOp addD (dOp addD (dVar 3) (dC (.int 1))) (dCall lenD (dCons (dVar 1) (dNil)))) (dNil))))) (dNext)) (dRet (dTup (dCons (dTup (dCons (dVar 1) (dCons (dOp idxD (dVar 0) (dC (.int 0))) (dCons (dVar 4) (dNil))))) (dCons (dC .none) (dNil))))))
def dG (f : List Row) : D := .tuple (f.map dR)
theorem dG_snoc (f : List Row) (p : Row) (h : f.length ≤ 100) : addD (dG f) (.tuple [dR p]) = some (.dat (dG (f ++ [p]))) := by
  show addD (.tuple _) (.tuple _) = _
  rw [addD_tup, if_pos (by simp; unfold LIM; omega)]
  show _ = some (A.dat (.tuple _))
  rw [List.map_append]; rfl
theorem rb_end {L : List Str} {d : D} {a k i : Nat} {f : List Row} {s6 : S} (hi : i = a + 1 + k) (h : i = L.length) :
    rbB [.dat (sL L), .dat d, .dat .none, .dat (nD a), .dat (dG f), .dat (nD k), s6] [] = some (.rt (.dat (.tuple [.none, nD i])) []) := by
  have h2 : ¬ ((a : Int) + 1 + (k : Int) < (L.length : Int)) := by omega
  have h3 : (i : Int) = (a : Int) + 1 + (k : Int) := by omega
  have t2 := two_lim
  unfold rbB
  simp [sL, nD, h2, h3, t2]
theorem rb_turn {L : List Str} {d : D} {a k i : Nat} {x : Str} {r : List Str} {f : List Row} {s6 : S} (hi : i = a + 1 + k) (h : L.drop i = x :: r) (hl : i < L.length) (hx : x.length < LIM) (hf : f.length ≤ 100) :
    rbB [.dat (sL L), .dat d, .dat .none, .dat (nD a), .dat (dG f), .dat (nD k), s6] [] = match row? x with
      | none => some (.rt (.dat (.tuple [.none, nD i])) [])
      | some p => if bad f p = true then some (.rt (.dat (.tuple [.none, nD i])) []) else some (.nx [.dat (sL L), .dat d, .dat .none, .dat (nD a), .dat (dG (f ++ [p])), .dat (nD k), .dat (dR p)] []) := by
  have h2 : ((a : Int) + 1 + (k : Int) < (L.length : Int)) := by omega
  have h3 : (i : Int) = (a : Int) + 1 + (k : Int) := by omega
  have h4 := at_drop h
  have h5 := r_row_readL hx
  have h6 : eqD (dG f) (.tuple []) = some (decide (f = [])) := eq_RT f
  have t2 := two_lim
  have t1 := lim1
  rw [h3] at h4
  unfold rbB
  cases hw : row? x with
  | none =>
    rw [hw] at h5
    simp [sL, nD, h2, h3, h4, h5, t2, oR]
  | some p =>
    rw [hw] at h5
    have h7 := len_dR p
    have h10 : isNonD (dR p) = false := rfl
    have h11 := dG_snoc f p hf
    cases f with
    | nil =>
      simp [sL, nD, h2, h3, h4, h5, h6, h10, t1, oR, bad, h11]
    | cons q f =>
      have h8 := len_dR q
      have h9 : idxD (dG (q :: f)) (.int 0) = some (.dat (dR q)) := by
        show (atI _ _).map _ = _
        rw [List.map_cons, at_zero]; rfl
      have h12 : (p.length : Int) = (q.length : Int) ↔ p.length = q.length := by omega
      by_cases hb : p.length = q.length
      · simp [sL, nD, h2, h3, h4, h5, h6, h7, h8, h9, h10, t1, oR, bad, hb]
        simp at h11
        simp [h11]
      · simp [sL, nD, h2, h3, h4, h5, h6, h7, h8, h9, h10, h12, t1, t2, oR, bad, hb]
theorem rb_loop {L : List Str} {ps : List Nat} {m : Str} {l : List Str} (hm : L = m :: l) (hps : ps.length ≤ 9) (hL : LOk L) : ∀ (n k i : Nat) (r : List Str) (f : List Row) (s5 s6 : S), i = ps.length + 2 + 1 + k → L.drop i = r → i ≤ L.length → f.length + n ≤ 100 → k + n = ps.length + 1 →
    (forGo none (.one 5) rbB (rngItems k n) [.dat (sL L), .dat (dT ps), .dat .none, .dat (nD (ps.length + 2)), .dat (dG f), s5, s6] []).bind (sqK rbQ) = some (.rt (.dat (pr ((goR n r i f).map fun g => dK ps m g))) [])
  | 0, k, i, [], f, s5, s6, hi, h, hl, hf, hk => by
    have hll := drop_len h hl
    have h1 : ¬ ((ps.length : Int) + 2 + 1 + ((ps.length : Int) + 1) < (L.length : Int)) := by simp at hll; omega
    have h2 := len_sL L
    have h3 := len_dT ps
    have hix : idxD (sL L) (.int 0) = some (.dat (.str m)) := by
      subst hm
      show (atI ((m :: l).map PyData.str) 0).map _ = _
      rw [head_at]; rfl
    have t2 := two_lim
    have t3 : 3 ≤ LIM := by decide
    rw [rng_nil, forGo_nil0]
    unfold rbQ
    simp [nD, h2, h3, h1, hix, t2, t3, goR, Except.map, pr, dK, dG]
  | 0, k, i, x :: r, f, s5, s6, hi, h, hl, hf, hk => by
    have hll := drop_len h hl
    have h1 : ((ps.length : Int) + 2 + 1 + ((ps.length : Int) + 1) < (L.length : Int)) := by simp at hll; omega
    have h2 := len_sL L
    have h3 := len_dT ps
    have h4 : (i : Int) = (ps.length : Int) + 2 + 1 + ((ps.length : Int) + 1) := by omega
    have t2 := two_lim
    rw [rng_nil, forGo_nil0]
    unfold rbQ
    simp [nD, h2, h3, h1, t2, goR, Except.map, pr, h4]
  | n + 1, k, i, [], f, s5, s6, hi, h, hl, hf, hk => by
    have hll := drop_len h hl
    have e := rb_end (L := L) (d := dT ps) (a := ps.length + 2) (k := k) (f := f) (s6 := s6) hi (by simp at hll; omega)
    rw [rng_succ, forGo_cons1]
    show ((rbB [.dat (sL L), .dat (dT ps), .dat .none, .dat (nD (ps.length + 2)), .dat (dG f), .dat (nD k), s6] []).bind _).bind _ = _
    rw [e]; rfl
  | n + 1, k, i, x :: r, f, s5, s6, hi, h, hl, hf, hk => by
    have hll := drop_len h hl
    rw [List.length_cons] at hll
    have e := rb_turn (L := L) (d := dT ps) (a := ps.length + 2) (k := k) (f := f) (s6 := s6) hi h (by omega) (hL.1 x (drop_mem h)).1 (by omega)
    have e1 : forGo none (.one 5) rbB (rngItems k (n + 1)) [.dat (sL L), .dat (dT ps), .dat .none, .dat (nD (ps.length + 2)), .dat (dG f), s5, s6] [] = (rbB [.dat (sL L), .dat (dT ps), .dat .none, .dat (nD (ps.length + 2)), .dat (dG f), .dat (nD k), s6] []).bind (fgK none (.one 5) rbB (rngItems ((k : Int) + 1) n)) := by
      rw [rng_succ, forGo_cons1]; rfl
    rw [e1, e]
    unfold goR
    cases hw : row? x with
    | none => rfl
    | some w =>
      simp only []
      by_cases hl : bad f w = true
      · rw [if_pos hl, if_pos hl]; rfl
      · rw [if_neg hl, if_neg hl, bind_some', fgK_nx, i_succ]
        exact rb_loop hm hps hL n (k + 1) (i + 1) r (f ++ [w]) (.dat (nD k)) _ (by omega) (drop_next h) (by omega) (by rw [List.length_append, List.length_singleton]; omega) (by omega)
theorem rows_sg : SgOk "rows" := by unfold SgOk; decide +kernel
theorem im_pr {r : Rd D} (h : ∀ d, r = .ok d → im d = true) : im (pr r) = true := by
  cases r with
  | ok d => show imAll _ = true; simp [h d rfl]
  | error j => rfl
theorem wrld_ok {a : Nat} {r : List Str} {ps : List Nat} (h : wrld a r = .ok ps) : TreeOk ps ∧ ∃ r', r = ("tree" : Str) :: r' ∧ ps.length = (upto a r').length := by
  cases r with
  | nil => cases h
  | cons x r =>
    rw [wrld_cons] at h
    split at h
    · rename_i hx
      obtain ⟨h1, h2⟩ := goT_ok h ⟨by simp, by intro i p h; cases h⟩
      exact ⟨h1, r, by rw [hx], by simpa using h2⟩
    · cases h
theorem r_book_read {L : List Str} (h0 : L ≠ []) (hL : LOk L) : run__law_book_read [sL L] = some (.dat (pr (bookR L))) := by
  cases L with
  | nil => exact absurd rfl h0
  | cons m r =>
    rw [bookR_cons]
    have hix : idxD (sL (m :: r)) (.int 0) = some (.dat (.str m)) := by
      show (atI ((m :: r).map PyData.str) 0).map _ = _
      rw [head_at]; rfl
    have hway := way_anyL m
    have t2 := two_lim
    have t1 := lim1
    have hlen := len_sL (m :: r)
    by_cases hm : m = "key" ∨ m = "bundle"
    · rw [if_pos hm]
      rw [decide_eq_true hm] at hway
      have hwr := r_world_read (L := m :: r) (a := 1) (Nat.le_refl _) hL
      have hwr : run__law_world_read [sL (m :: r), .int 1] = some (.dat (pr ((wrld 1 r).map dT))) := hwr
      cases hg : wrld 1 r with
      | error j =>
        rw [hg] at hwr
        have hwr : run__law_world_read [sL (m :: r), .int 1] = some (.dat (.tuple [.none, nD j])) := hwr
        refine runD_rt rfl ?_ rfl
        unfold d__law_book_read
        simp [slots, hix, hway, t2, hwr, tgGo, setAll, pr]
      | ok ps =>
        rw [hg] at hwr
        obtain ⟨hps, r', rfl, hpl⟩ := wrld_ok hg
        have hwr : run__law_world_read [sL (m :: "tree" :: r'), .int 1] = some (.dat (.tuple [dT ps, .none])) := hwr
        have h3 := len_dT ps
        have hp9 := hps.1
        obtain ⟨t, ht, htt⟩ := upto_split 1 r'
        have hlr : r'.length = (upto 1 r').length + t.length := by
          conv => lhs; rw [ht]
          rw [List.length_append]
        have hd3 : (m :: "tree" :: r').drop (ps.length + 2) = t := by
          rw [Nat.add_comm, ← List.drop_drop, hpl]
          show (r'.drop (upto 1 r').length) = _
          generalize upto 1 r' = u at ht
          rw [ht, List.drop_left]
        have hcut : cutD ((m :: "tree" :: r').map PyData.str) (some (((ps.length : Int) + 1 + 1))) (some (((ps.length : Int) + 1 + 1 + 1))) = (t.take 1).map .str := by
          have := cut_one (m :: "tree" :: r') (ps.length + 2)
          rw [hd3] at this
          exact this
        have hsl : sliceD (sL (m :: "tree" :: r')) (some (((ps.length : Int) + 1 + 1))) (some (((ps.length : Int) + 1 + 1 + 1))) = some (.tmp ((t.take 1).map .str)) := by
          show some (A.tmp (cutD _ _ _)) = _
          rw [hcut]
        simp only []
        rw [hd3]
        rcases htt with rfl | ⟨y, t', rfl, hy⟩
        · have heq : eqD (.list []) (.list [.str "rows"]) = some false := by decide +kernel
          have h2 : (ps.length : Int) + 2 = (ps.length : Int) + 1 + 1 := by omega
          refine runD_rt rfl ?_ rfl
          unfold d__law_book_read
          simp [slots, hix, hway, t1, t2, hwr, tgGo, setAll, pr, h3, hsl, heq, nD, h2]
        · have hyr : y = "rows" := by
            unfold stops at hy
            simp at hy
            exact hy
          subst hyr
          have heq : eqD (.list [.str "rows"]) (.list [.str "rows"]) = some true := by decide +kernel
          have key := rb_loop (L := m :: "tree" :: r') (ps := ps) (m := m) rfl hp9 hL (ps.length + 1) 0 (ps.length + 3) t' [] .un .un (by omega) (drop_next hd3) (by simp at hlr ⊢; omega) (by simp; omega) (by omega)
          have hit : rng1K ([.dat (.int ((ps.length : Int) + 1))], []) = some ((rngItems 0 (ps.length + 1), none), []) := rng1K_ap (by omega) (by omega)
          refine runD_rt rfl ⟨[], ?_, trivial⟩ (im_pr fun d hd => by
            have hd : (goR (ps.length + 1) t' (ps.length + 3) []).map (fun g => dK ps m g) = .ok d := hd
            cases hr : goR (ps.length + 1) t' (ps.length + 3) [] with
            | ok g => rw [hr] at hd; cases hd; exact im_dK _ _ _
            | error j => rw [hr] at hd; cases hd)
          refine Eq.trans ?_ key
          unfold d__law_book_read
          have hpre : ∀ q : DS, dSeq (dSet 4 (dTup (dNil))) (dSeq (dFor (dItR1 (dCons (dCall lenD (dCons (dVar 1) (dNil))) (dNil))) (.one 5) rbB) q) [.dat (sL (m :: "tree" :: r')), .dat (dT ps), .dat .none, .dat (nD (ps.length + 2)), .un, .un, .un] [] = (forGo none (.one 5) rbB (rngItems (0 : Nat) (ps.length + 1)) [.dat (sL (m :: "tree" :: r')), .dat (dT ps), .dat .none, .dat (nD (ps.length + 2)), .dat (dG []), .un, .un] []).bind (sqK q) := by
            intro q
            simp [h3, hit, dG]
          have hpre := hpre rbQ
          unfold rbB rbQ at hpre
          unfold rbB rbQ
          rw [← hpre]
          have h2 : (ps.length : Int) + 2 = (ps.length : Int) + 1 + 1 := by omega
          simp [slots, hix, hway, t1, t2, hwr, tgGo, setAll, h3, hsl, heq, nD, h2]
    · rw [if_neg hm]
      rw [decide_eq_false hm] at hway
      refine runD_rt rfl ?_ rfl
      unfold d__law_book_read
      simp [slots, hix, hway, t2, pr, nD]
end K75
set_option Elab.async false
set_option linter.all false
set_option maxRecDepth 100000
set_option maxHeartbeats 1000000
namespace K75
open PySem L2 DD TL StrLaws
def pair? (x : Str) (c : Nat) : Option (Nat × Nat) := match tl x with
  | [a, g, b] => if g = 62 ∧ (97 ≤ a ∧ a < 97 + c) ∧ 97 ≤ b ∧ b < 97 + c then some (a - 97, b - 97) else none
  | _ => none
theorem cutS_to1 (x : Str) : tl (cutS x none (some 1)) = (tl x).take 1 := by
  show ((tl x).drop (HT.sIx x.length 0 none)).take (HT.sIx x.length x.length (some ((1 : Nat) : Int)) - HT.sIx x.length 0 none) = _
  rw [HT.sIx_none, HT.sIx_nat, len_tl]
  cases tl x with
  | nil => rfl
  | cons a l => simp
theorem cutS_from2 (x : Str) : tl (cutS x (some 2) none) = (tl x).drop 2 := by
  show ((tl x).drop (HT.sIx x.length 0 (some ((2 : Nat) : Int)))).take (HT.sIx x.length x.length none - HT.sIx x.length 0 (some ((2 : Nat) : Int))) = _
  rw [HT.sIx_none, HT.sIx_nat, len_tl]
  match tl x with
  | [] => rfl
  | [a] => rfl
  | a :: b :: l => simp
theorem lt_tl (x : Str) (c : Nat) : lt? x c = match tl x with
  | [a] => if 97 ≤ a ∧ a < 97 + c then some (a - 97) else none
  | _ => none := rfl
/-- what the program looks at -/
theorem pair_prog (x : Str) (c : Nat) : (∃ p q g, lt? (cutS x none (some 1)) c = some p ∧ lt? (cutS x (some 2) none) c = some q ∧ tl x = [97 + p, g, 97 + q] ∧ pair? x c = if g = 62 then some (p, q) else none) ∨ ((lt? (cutS x none (some 1)) c = none ∨ lt? (cutS x (some 2) none) c = none) ∧ pair? x c = none) := by
  cases h1 : lt? (cutS x none (some 1)) c with
  | none =>
    refine .inr ⟨.inl rfl, ?_⟩
    unfold pair?
    split
    · rename_i a g b ht
      rw [lt_tl, cutS_to1, ht] at h1
      simp only [List.take_succ_cons, List.take_zero] at h1
      split at h1
      · cases h1
      · rename_i h2
        rw [if_neg fun z => h2 z.2.1]
    · rfl
  | some p =>
    cases h2 : lt? (cutS x (some 2) none) c with
    | none =>
      refine .inr ⟨.inr rfl, ?_⟩
      unfold pair?
      split
      · rename_i a g b ht
        rw [lt_tl, cutS_from2, ht] at h2
        simp only [List.drop_succ_cons, List.drop_zero] at h2
        split at h2
        · cases h2
        · rename_i h3
          rw [if_neg fun z => h3 z.2.2]
      · rfl
    | some q =>
      left
      obtain ⟨hp, e1⟩ := lt_some h1
      obtain ⟨hq, e2⟩ := lt_some h2
      have f1 := cutS_to1 x
      have f2 := cutS_from2 x
      rw [e1, ltr_tl] at f1
      rw [e2, ltr_tl] at f2
      have : ∃ g, tl x = [97 + p, g, 97 + q] := by
        match htx : tl x, f1, f2 with
        | [], f1, f2 => simp at f1
        | [a], f1, f2 => simp at f2
        | a :: g :: l, f1, f2 =>
          simp only [List.take_succ_cons, List.take_zero, List.cons.injEq, and_true] at f1
          simp only [List.drop_succ_cons, List.drop_zero] at f2
          subst f1 f2
          exact ⟨g, rfl⟩
      obtain ⟨g, hg⟩ := this
      refine ⟨p, q, g, rfl, rfl, hg, ?_⟩
      unfold pair?
      rw [hg]
      simp only []
      by_cases h62 : g = 62
      · rw [if_pos ⟨h62, by omega, by omega⟩, if_pos h62, show 97 + p - 97 = p by omega, show 97 + q - 97 = q by omega]
      · rw [if_neg fun z => h62 z.1, if_neg h62]
theorem gt_one : (">" : Str) = ⟨#[62]⟩ := by decide +kernel
theorem gt_k : (">" : Str).cps.all (· < 256) = true := by decide +kernel
/-- what the law looks at -/
theorem pair_law (x : Str) (c : Nat) (hc : c < 11) : (∃ p q, pair? x c = some (p, q) ∧ Txt.split x ">" = [ltr p, ltr q] ∧ p < c ∧ q < c) ∨ (pair? x c = none ∧ ((Txt.split x ">").length ≠ 2 ∨ ∃ y ∈ Txt.split x ">", lt? y c = none)) := by
  cases h : pair? x c with
  | some pq =>
    left
    obtain ⟨p, q⟩ := pq
    unfold pair? at h
    split at h
    · rename_i a g b ht
      split at h
      · rename_i hh
        cases h
        obtain ⟨rfl, h1, h2⟩ := hh
        refine ⟨_, _, rfl, ?_, by omega, by omega⟩
        have e : x = Txt.join ">" [ltr (a - 97), ltr (b - 97)] := by
          rw [join_eq]
          refine ext_tl ?_
          rw [tl_join, gt_tl, ht]
          show _ = (97 + (a - 97)) :: 62 :: [97 + (b - 97)]
          rw [show 97 + (a - 97) = a by omega, show 97 + (b - 97) = b by omega]
        rw [e]
        refine split_join gt_tl gt_k (by simp) fun y hy => ?_
        simp only [List.mem_cons, List.not_mem_nil, or_false] at hy
        rcases hy with rfl | rfl <;> rw [ltr_tl, List.mem_singleton] <;> omega
      · cases h
    · cases h
  | none =>
    right
    refine ⟨rfl, ?_⟩
    refine Decidable.byContradiction fun hn => ?_
    rw [not_or] at hn
    obtain ⟨h2, h3⟩ := hn
    have h2 : (Txt.split x ">").length = 2 := Decidable.byContradiction h2
    match hs : Txt.split x ">", h2, h3 with
    | [y, z], _, h3 =>
      cases hy : lt? y c with
      | none => exact h3 ⟨y, by simp, hy⟩
      | some p =>
        cases hz : lt? z c with
        | none => exact h3 ⟨z, by simp, hz⟩
        | some q =>
          obtain ⟨hp, rfl⟩ := lt_some hy
          obtain ⟨hq, rfl⟩ := lt_some hz
          have e := join_split x ">"
          rw [hs] at e
          have e2 : tl x = [97 + p, 62, 97 + q] := by
            rw [← e, tl_join, gt_tl]; rfl
          unfold pair? at h
          rw [e2] at h
          simp only [] at h
          rw [if_pos ⟨trivial, by omega, by omega⟩] at h
          cases h
def lateP (f : List (Nat × Nat)) (q : Nat × Nat) : Bool := match f.getLast? with
  | some l => decide (q.1 ≤ l.1)
  | none => false
def goP (c : Nat) : List Str → Nat → List (Nat × Nat) → Rd (List (Nat × Nat))
  | [], _, f => .ok f
  | x :: r, i, f => match pair? x c with
    | none => .error i
    | some q => if lateP f q = true then .error i else goP c r (i + 1) (f ++ [q])
def pairsR (c : Nat) (first : Nat) : List Str → Rd (List (Nat × Nat))
  | [] => .error first
  | x :: r => if x = "-" then (if r = [] then .ok [] else .error (first + 1)) else goP c (x :: r) first []
theorem pairsR_cons {c first : Nat} {x : Str} {r : List Str} : pairsR c first (x :: r) = if x = "-" then (if r = [] then .ok [] else .error (first + 1)) else goP c (x :: r) first [] := rfl
theorem lay_pD : ∀ f : List (Nat × Nat), PyData.canLayAll0 (f.map pD) = true ∧ PyData.depthAll (f.map pD) ≤ 1
  | [] => ⟨rfl, by simp only [List.map_nil, PyData.depthAll]; omega⟩
  | a :: l => ⟨by rw [List.map_cons, PyData.canLayAll0, (lay_pD l).1, Bool.and_true]; rfl, by
    rw [List.map_cons, PyData.depthAll]
    have h1 := (lay_pD l).2
    have h2 : PyData.depth (pD a) = 1 := by unfold pD nD; simp only [PyData.depth, PyData.depthAll]; rfl
    omega⟩
theorem shp (f : List (Nat × Nat)) : SeqAt.shaped (.list (f.map pD)) = true ∧ SeqAt.shaped (.tuple (f.map pD)) = true := by
  have := (lay_pD f).2
  constructor
  · unfold SeqAt.shaped
    rw [PyData.canLay0, (lay_pD _).1, PyData.depth]
    simp; omega
  · unfold SeqAt.shaped
    rw [PyData.canLay0, (lay_pD _).1, PyData.depth]
    simp; omega
theorem eq_P0 (f : List (Nat × Nat)) : eqD (.list (f.map pD)) (.list []) = some (decide (f = [])) := by
  have h1 := (shp f).1
  have h2 : SeqAt.shaped (.list []) = true := by decide
  unfold eqD
  cases f with
  | nil => decide +kernel
  | cons a l =>
    simp only [eqS, h1, h2, Bool.and_self, if_true]
    simp only [List.map_cons, PyData.eqv, PyData.eqvAll]
    simp
theorem eq_PT (f : List (Nat × Nat)) : eqD (dP f) (.tuple []) = some (decide (f = [])) := by
  have h1 := (shp f).2
  have h2 : SeqAt.shaped (.tuple []) = true := by decide
  unfold eqD dP
  cases f with
  | nil => decide +kernel
  | cons a l =>
    simp only [eqS, h1, h2, Bool.and_self, if_true]
    simp only [List.map_cons, PyData.eqv, PyData.eqvAll]
    simp
def ppB : DXS := xSeq (xS (dSet 5 (dOp idxD (dVar 0) (dVar 4)))) (xSeq (xS (dSet 6 (dFn run_locale_read (dCons (dSl (dVar 5) (dNo) (dPart (dC (.int 1)))) (dCons (dVar 2) (dNil)))))) (xSeq (xS (dSet 7 (dFn run_locale_read (dCons (dSl (dVar 5) (dPart (dC (.int 2))) (dNo)) (dCons (dVar 2) (dNil)))))) (xSeq (xIf (xT (dOrT (dTst (dOp isD (dVar 6) (dC .none))) (dOrT (dTst (dOp isD (dVar 7) (dC .none))) (dTst (dOp neO (dOp idxD (dVar 5) (dC (.int 1))) (dC (.str ">"))))))) (xRaise "InvalidWords" "place" (dCons (dVar 4) (dNil))) (xS (dNext))) (xSeq (xIf (xT (dAndT (dTst (dOp neO (dVar 3) (dLst (dNil)))) (dTst (dOp leD (dVar 6) (dOp idxD (dOp idxD (dVar 3) (dNeg (dC (.int 1)))) (dC (.int 0))))))) (xRaise "InvalidWords" "place" (dCons (dVar 4) (dNil))) (xS (dNext))) (xS (dApp 3 (dTup (dCons (dVar 6) (dCons (dVar 7) (dNil))))))))))
theorem cut_le (x : Str) (lo hi : Option Int) : (cutS x lo hi).length ≤ x.length := by
  rw [len_tl, len_tl]
  show (((tl x).drop _).take _).length ≤ _
  rw [List.length_take, List.length_drop]
  omega
theorem last_P {f : List (Nat × Nat)} {l : Nat × Nat} (h : f.getLast? = some l) : atI (f.map pD) (-1) = some (pD l) := by
  obtain ⟨g, rfl⟩ := List.getLast?_eq_some_iff.mp h
  rw [List.map_append]
  exact at_last _ _
theorem pp_turn {L : List Str} {a c i : Nat} {x : Str} {r : List Str} {f : List (Nat × Nat)} {s5 s6 s7 : S} (h : L.drop i = x :: r) (hc : c < 11) (hx : x.length < LIM) (hf : f.length ≤ 10000) :
    ∃ s5' s6' s7', ppB [.dat (sL L), .dat (nD a), .dat (nD c), .ref 0, .dat (nD i), s5, s6, s7] [f.map pD] = match pair? x c with
      | none => some (.ex (ew i) [.dat (sL L), .dat (nD a), .dat (nD c), .ref 0, .dat (nD i), s5', s6', s7'] [f.map pD])
      | some q => if lateP f q = true then some (.ex (ew i) [.dat (sL L), .dat (nD a), .dat (nD c), .ref 0, .dat (nD i), s5', s6', s7'] [f.map pD]) else some (.r (.nx [.dat (sL L), .dat (nD a), .dat (nD c), .ref 0, .dat (nD i), s5', s6', s7'] [(f ++ [q]).map pD])) := by
  refine ⟨.dat (.str x), .dat (oN (lt? (cutS x none (some 1)) c)), .dat (oN (lt? (cutS x (some 2) none) c)), ?_⟩
  have h3 := at_drop h
  have hxl : x.length ≤ LIM := by omega
  have h4 : run_locale_read [.str (cutS x none (some 1)), .int (c : Int)] = _ := r_locale_read (cutS x none (some 1)) c hc (by have := cut_le x none (some 1); omega)
  have h5 : run_locale_read [.str (cutS x (some 2) none), .int (c : Int)] = _ := r_locale_read (cutS x (some 2) none) c hc (by have := cut_le x (some 2) none; omega)
  have hfl : f.length < LIM := by unfold LIM; omega
  have t2 := two_lim
  rcases pair_prog x c with ⟨p, q, g, e1, e2, hg, hp⟩ | ⟨he, hp⟩
  · rw [hp]
    rw [e1] at h4 ⊢
    rw [e2] at h5 ⊢
    have h6 : idxD (.str x) (.int 1) = some (.dat (.str ⟨#[g]⟩)) := by
      show (if x.length ≤ LIM then (atI (tl x) 1).map _ else none) = _
      rw [if_pos hxl, hg]; rfl
    have h7 : (⟨#[g]⟩ : Str) = ">" ↔ g = 62 := by
      rw [gt_one]
      constructor
      · intro z; exact (Array.mk.inj (Str.mk.inj z) |> List.cons.inj).1
      · rintro rfl; rfl
    unfold ppB
    by_cases h62 : g = 62
    · rw [if_pos h62]
      have h8 := h7.mpr h62
      simp only []
      cases hl : f.getLast? with
      | none =>
        obtain rfl : f = [] := List.getLast?_eq_none_iff.mp hl
        have h0 : 0 < LIM := by decide
        have h9 : eqD (.list []) (.list []) = some true := by decide +kernel
        simp [sL, nD, h3, h4, h5, oN, hxl, -idxD_str, h6, h8, h9, h0, t2, lateP, pD]
      | some l =>
        have h9 := eq_P0 f
        have h10 : ¬ f = [] := fun z => by subst z; cases hl
        have h11 := last_P hl
        have h12 : atI [nD l.1, nD l.2] 0 = some (.int (l.1 : Int)) := at_zero _ _
        by_cases hle : p ≤ l.1
        · have h13 : (p : Int) ≤ (l.1 : Int) := by omega
          simp [sL, nD, h3, h4, h5, oN, hxl, -idxD_str, h6, h8, h9, h10, h11, t2, lateP, hl, hle, pD, ew]
          simp [nD] at h12
          simp [h12, h13]
        · have h13 : ¬ (p : Int) ≤ (l.1 : Int) := by omega
          simp [sL, nD, h3, h4, h5, oN, hxl, -idxD_str, h6, h8, h9, h10, h11, t2, lateP, hl, hle, pD]
          simp [nD] at h12
          simp [h12, h13, hfl, t2]
    · rw [if_neg h62]
      have h8 : ¬ (⟨#[g]⟩ : Str) = ">" := fun z => h62 (h7.mp z)
      simp [sL, nD, h3, h4, h5, oN, hxl, -idxD_str, h6, h8, ew]
  · rw [hp]
    unfold ppB
    rcases he with he | he
    · rw [he] at h4 ⊢
      simp [sL, nD, h3, h4, h5, oN, hxl, ew]
    · rw [he] at h5 ⊢
      cases hk : lt? (cutS x none (some 1)) c with
      | none =>
        rw [hk] at h4
        simp [sL, nD, h3, h4, h5, oN, hxl, ew]
      | some p =>
        rw [hk] at h4
        simp [sL, nD, h3, h4, h5, oN, hxl, ew]
end K75
set_option Elab.async false
set_option linter.all false
set_option maxRecDepth 100000
set_option maxHeartbeats 1000000
namespace K75
open PySem L2 DD TL StrLaws
theorem pp_loop {L : List Str} {a c : Nat} (hc : c < 11) (hL : LOk L) : ∀ (r : List Str) (i : Nat) (f : List (Nat × Nat)) (s4 s5 s6 s7 : S), L.drop i = r → f.length + r.length ≤ 10000 →
    match goP c r i f with
    | .ok g => ∃ s4' s5' s6' s7', forGoX none (.one 4) ppB (rngItems i r.length) [.dat (sL L), .dat (nD a), .dat (nD c), .ref 0, s4, s5, s6, s7] [f.map pD] = some (.r (.nx [.dat (sL L), .dat (nD a), .dat (nD c), .ref 0, s4', s5', s6', s7'] [g.map pD]))
    | .error j => ∃ sl io, forGoX none (.one 4) ppB (rngItems i r.length) [.dat (sL L), .dat (nD a), .dat (nD c), .ref 0, s4, s5, s6, s7] [f.map pD] = some (.ex (ew j) sl io)
  | [], i, f, s4, s5, s6, s7, h, hf => ⟨s4, s5, s6, s7, rfl⟩
  | x :: r, i, f, s4, s5, s6, s7, h, hf => by
    rw [List.length_cons] at hf
    obtain ⟨s5', s6', s7', e⟩ := pp_turn (a := a) (c := c) (f := f) (s5 := s5) (s6 := s6) (s7 := s7) h hc (hL.1 x (drop_mem h)).1 (by omega)
    have e1 : forGoX none (.one 4) ppB (rngItems i (x :: r).length) [.dat (sL L), .dat (nD a), .dat (nD c), .ref 0, s4, s5, s6, s7] [f.map pD] = (ppB [.dat (sL L), .dat (nD a), .dat (nD c), .ref 0, .dat (nD i), s5, s6, s7] [f.map pD]).bind (fgxK none (.one 4) ppB (rngItems ((i : Int) + 1) r.length)) := by
      rw [List.length_cons, rng_succ, forGoX_cons1]; rfl
    rw [e1, e]
    unfold goP
    cases hw : pair? x c with
    | none => exact ⟨_, _, rfl⟩
    | some w =>
      simp only []
      by_cases hl : lateP f w = true
      · rw [if_pos hl, if_pos hl]; exact ⟨_, _, rfl⟩
      · rw [if_neg hl, if_neg hl, bind_some', fgxK_nx, i_succ]
        exact pp_loop hc hL r (i + 1) (f ++ [w]) (.dat (nD i)) s5' s6' s7' (drop_next h) (by rw [List.length_append, List.length_singleton]; omega)
theorem r_pairs_read {L : List Str} {c first : Nat} (hc : c < 11) (hL : LOk L) (hf : first ≤ L.length) : run_pairs_read [sL L, nD first, nD c] = some (fo ((pairsR c first (L.drop first)).map dP)) := by
  have h1 := r_none_written L first hf
  have hl := hL.2
  cases h : L.drop first with
  | nil =>
    rw [h] at h1
    have := drop_len h hf
    simp at this
    refine runX_ex rfl ?_
    unfold d_pairs_read
    simp [slots, h1, pairsR, fo, this, Except.map]
  | cons x r =>
    rw [h] at h1
    simp only [] at h1
    rw [pairsR_cons]
    by_cases hx : x = "-"
    · rw [if_pos hx] at h1 ⊢
      by_cases hr : r = []
      · rw [if_pos hr] at h1 ⊢
        refine runX_dat rfl ?_ rfl
        unfold d_pairs_read
        simp [slots, h1, dP]
      · rw [if_neg hr] at h1 ⊢
        refine runX_ex rfl ?_
        unfold d_pairs_read
        simp [slots, h1]
    · rw [if_neg hx] at h1 ⊢
      have hlen := drop_len h hf
      have key := pp_loop (a := first) hc hL (x :: r) first [] .un .un .un .un h (by simp at hlen ⊢; omega)
      simp only [List.map_nil] at key
      have hit := itR2 (sl := [.dat (sL L), .dat (nD first), .dat (nD c), .ref 0, .un, .un, .un, .un]) (io := [[]]) (a := dCons (dVar 1) (dCons (dCall lenD (dCons (dVar 0) (dNil))) (dNil))) (i := first) (n := (x :: r).length) (m := L.length) (by simp [len_sL]) hlen (by omega)
      have hpre : ∀ (q : DXS), (xSeq (xS (dOwn 3 (dLst (dNil)))) (xSeq (xFor (dItR2 (dCons (dVar 1) (dCons (dCall lenD (dCons (dVar 0) (dNil))) (dNil)))) (.one 4) ppB) q)) [.dat (sL L), .dat (nD first), .dat (nD c), .un, .un, .un, .un, .un] [] = (forGoX none (.one 4) ppB (rngItems first (x :: r).length) [.dat (sL L), .dat (nD first), .dat (nD c), .ref 0, .un, .un, .un, .un] [[]]).bind (xsqK q) := by
        intro q
        simp [-dItR2_ap, hit]
      have hb : d_pairs_read (slots 8 ([sL L, nD first, nD c].map .dat)) [] = (forGoX none (.one 4) ppB (rngItems first (x :: r).length) [.dat (sL L), .dat (nD first), .dat (nD c), .ref 0, .un, .un, .un, .un] [[]]).bind (xsqK (xS (dRet (dCall tupleD (dCons (dVar 3) (dNil)))))) := by
        rw [← hpre]
        unfold d_pairs_read ppB
        simp [slots, h1]
      cases hg : goP c (x :: r) first [] with
      | ok g =>
        rw [hg] at key
        obtain ⟨s4', s5', s6', s7', e⟩ := key
        refine runX_dat rfl ?_ (by show imAll _ = true; simp)
        rw [hb, e]
        simp [dP]
      | error j =>
        rw [hg] at key
        obtain ⟨sl, io, e⟩ := key
        refine runX_ex rfl ?_
        rw [hb, e]
        exact ⟨_, _, rfl⟩
/-! the law's pairs -/
theorem parts_len {x y : Str} : ∀ p ∈ Txt.split x y, p.length ≤ x.length := by
  have e : tl x = joinL (tl y) ((Txt.split x y).map tl) := by
    conv => lhs; rw [← join_split x y]
    rw [tl_join]
  have : ∀ (S : List Nat) (l : List (List Nat)), ∀ p ∈ l, p.length ≤ (joinL S l).length := by
    intro S l
    induction l with
    | nil => intro p hp; cases hp
    | cons a l ih =>
      intro p hp
      cases l with
      | nil => rw [List.mem_singleton] at hp; subst hp; exact Nat.le_refl _
      | cons b l =>
        show _ ≤ (a ++ (S ++ joinL S (b :: l))).length
        rw [List.length_append, List.length_append]
        rcases List.mem_cons.mp hp with rfl | hp
        · omega
        · have := ih p hp; omega
  intro p hp
  rw [len_tl, len_tl, e]
  exact this _ _ _ (List.mem_map_of_mem hp)
theorem spots_comp (two : List Str) (c : Nat) (hc : c < 11) (h : ∀ p ∈ two, p.length ≤ LIM) (hl : two.length ≤ LIM) (sl : List S) (h1 : sl[1]? = some (.dat (nD c))) (h6 : 6 < sl.length) :
    lcGo none (.one 6) dYes (dFn run__law_letter (dCons (dVar 6) (dCons (dVar 1) (dNil)))) sl (two.map .str) 0 [] = some (two.map fun p => oN (lt? p c), []) := by
  refine lcGo_mapL rfl PyData.str (fun p => oN (lt? p c)) two 0 (by omega) fun p hm => ⟨_, .dat (oN (lt? p c)), rfl, ?_, ?_⟩
  · have h2 : (sl.set 6 (.dat (.str p)))[1]? = some (.dat (nD c)) := by rw [List.getElem?_set_ne (by omega)]; exact h1
    have h3 : (sl.set 6 (.dat (.str p)))[6]? = some (.dat (.str p)) := List.getElem?_set_self h6
    have h4 := r_lt p c hc (h p hm)
    simp only [dFn_ap, dCons_ap, dVar_ap, h2, h3, varK_dat, bind_some', consK_ap, dNil_ap, Option.map_some, vws_cons, vw_dat, vws_nil, h4]
  · rw [lcItem_dat, if_pos (im_oN _)]
theorem in_none (two : List Str) (c : Nat) : inD .none (.list (two.map fun p => oN (lt? p c))) = some (decide (∃ p ∈ two, lt? p c = none)) := by
  have hf : ((two.map fun p => oN (lt? p c)).all flatD) = true := by
    rw [List.all_eq_true]
    intro d hd
    obtain ⟨p, _, rfl⟩ := List.mem_map.mp hd
    cases lt? p c <;> rfl
  have e : inD .none (.list (two.map fun p => oN (lt? p c))) = some (inAny .none (two.map fun p => oN (lt? p c))) := by
    show (if flatD .none && (two.map fun p => oN (lt? p c)).all flatD then some (inAny .none (two.map fun p => oN (lt? p c))) else none) = _
    rw [hf]; rfl
  rw [e]
  congr 1
  unfold inAny
  rw [Bool.eq_iff_iff, List.any_eq_true, decide_eq_true_iff]
  constructor
  · rintro ⟨d, hd, he⟩
    obtain ⟨p, hp, rfl⟩ := List.mem_map.mp hd
    refine ⟨p, hp, ?_⟩
    cases hq : lt? p c with
    | none => rfl
    | some w => rw [hq] at he; simp [oN, nD, PyData.eqv] at he
  · rintro ⟨p, hp, he⟩
    exact ⟨_, List.mem_map_of_mem hp, by rw [he]; rfl⟩
def plB : DS := (dSeq (dSet 4 (dMeth splitD (dOp idxD (dVar 0) (dVar 3)) (dCons (dC (.str ">")) (dNil)))) (dSeq (dSet 5 (dLc (dItS (dVar 4)) (.one 6) (dYes) (dFn run__law_letter (dCons (dVar 6) (dCons (dVar 1) (dNil)))) [6])) (dSeq (dIf (dOrT (dTst (dOp neO (dCall lenD (dCons (dVar 4) (dNil))) (dC (.int 2)))) (dOrT (dTst (dOp inO (dC .none) (dVar 5))) (dAndT (dTst (dOp neO (dVar 2) (dTup (dNil)))) (dTst (dOp geD (dOp idxD (dOp idxD (dVar 2) (dNeg (dC (.int 1)))) (dC (.int 0))) (dOp idxD (dVar 5) (dC (.int 0)))))))) (dRet (dTup (dCons (dC .none) (dCons (dVar 3) (dNil))))) (dNext)) (dSet 2 (dOp addD (dVar 2) (dTup (dCons (dTup (dCons (dOp idxD (dVar 5) (dC (.int 0))) (dCons (dOp idxD (dVar 5) (dC (.int 1))) (dNil)))) (dNil))))))))
theorem dP_snoc (f : List (Nat × Nat)) (p q : Nat) (h : f.length < LIM) : addD (dP f) (.tuple [.tuple [.int (p : Int), .int (q : Int)]]) = some (.dat (dP (f ++ [(p, q)]))) := by
  show addD (.tuple _) (.tuple _) = _
  rw [addD_tup, if_pos (by simp; omega)]
  show _ = some (A.dat (.tuple _))
  rw [List.map_append]; rfl
theorem pl_turn {L : List Str} {c i : Nat} {x : Str} {r : List Str} {f : List (Nat × Nat)} {s4 s5 s6 : S} (h : L.drop i = x :: r) (hc : c < 11) (hx : x.length < LIM) (hf : f.length < LIM) :
    ∃ s4' s5' s6', plB [.dat (sL L), .dat (nD c), .dat (dP f), .dat (nD i), s4, s5, s6] [] = match pair? x c with
      | none => some (.rt (.dat (.tuple [.none, nD i])) [])
      | some q => if lateP f q = true then some (.rt (.dat (.tuple [.none, nD i])) []) else some (.nx [.dat (sL L), .dat (nD c), .dat (dP (f ++ [q])), .dat (nD i), s4', s5', s6'] []) := by
  have h3 := at_drop h
  have hxl : x.length ≤ LIM := by omega
  have hsp : splitD x [.str ">"] = some (.tmp ((Txt.split x ">").map .str)) := by
    rw [splitD_str, if_pos ⟨by rw [gt_len]; rfl, hxl⟩]
  have hpl : ∀ p ∈ Txt.split x ">", p.length ≤ LIM := fun p hp => by have := parts_len p hp; omega
  have hnl : (Txt.split x ">").length ≤ x.length + 1 := by
    have e : tl x = joinL (tl ">") ((Txt.split x ">").map tl) := by
      conv => lhs; rw [← join_split x ">"]
      rw [tl_join]
    have : ∀ (l : List (List Nat)), l.length ≤ (joinL [62] l).length + 1 := by
      intro l
      induction l with
      | nil => simp
      | cons a l ih =>
        cases l with
        | nil => simp
        | cons b l =>
          show _ ≤ (a ++ ([62] ++ joinL [62] (b :: l))).length + 1
          rw [List.length_append, List.length_append, List.length_cons, List.length_singleton]
          omega
    have h5 := this ((Txt.split x ">").map tl)
    rw [List.length_map] at h5
    rw [len_tl, e, gt_tl]
    exact h5
  have hlc := spots_comp (Txt.split x ">") c hc hpl (by omega) [.dat (sL L), .dat (nD c), .dat (dP f), .dat (nD i), .dat (.list ((Txt.split x ">").map .str)), s5, .un] rfl (by simp)
  have hin := in_none (Txt.split x ">") c
  have t1 := lim1
  have t2 := two_lim
  refine ⟨.dat (.list ((Txt.split x ">").map .str)), .dat (.list ((Txt.split x ">").map fun p => oN (lt? p c))), s6, ?_⟩
  unfold plB
  have hpre : ∀ q : DS, (dSeq (dSet 4 (dMeth splitD (dOp idxD (dVar 0) (dVar 3)) (dCons (dC (.str ">")) (dNil)))) (dSeq (dSet 5 (dLc (dItS (dVar 4)) (.one 6) (dYes) (dFn run__law_letter (dCons (dVar 6) (dCons (dVar 1) (dNil)))) [6])) q)) [.dat (sL L), .dat (nD c), .dat (dP f), .dat (nD i), s4, s5, s6] [] = q [.dat (sL L), .dat (nD c), .dat (dP f), .dat (nD i), .dat (.list ((Txt.split x ">").map .str)), .dat (.list ((Txt.split x ">").map fun p => oN (lt? p c))), s6] [] := by
    intro q
    simp only [sL] at hlc ⊢
    simp [nD, h3, -splitD_str, hsp] at hlc ⊢
    simp [hlc]
  rw [hpre]
  rcases pair_law x c hc with ⟨p, q, e1, e2, hp, hq⟩ | ⟨e1, e2⟩
  · rw [e1, e2] 
    rw [e2] at hin
    have g1 := lt_ltr hp
    have g2 := lt_ltr hq
    have hno : ¬ (∃ y ∈ [ltr p, ltr q], lt? y c = none) := by
      rintro ⟨y, hy, hn⟩
      simp only [List.mem_cons, List.not_mem_nil, or_false] at hy
      rcases hy with rfl | rfl
      · rw [g1] at hn; cases hn
      · rw [g2] at hn; cases hn
    rw [decide_eq_false hno] at hin
    simp only [List.map_cons, List.map_nil, g1, g2, oN] at hin ⊢
    have h9 := eq_PT f
    have h12 : atI [nD p, nD q] 0 = some (.int (p : Int)) := at_zero _ _
    have h13 : atI [nD p, nD q] 1 = some (.int (q : Int)) := at1 _ _ _
    have hsn := dP_snoc f p q hf
    cases hl : f.getLast? with
    | none =>
      obtain rfl : f = [] := List.getLast?_eq_none_iff.mp hl
      simp [hin, h9, lateP, h12, h13, t1, t2, hsn]
    | some l =>
      have h10 : ¬ f = [] := fun z => by subst z; cases hl
      have h11 : idxD (dP f) (.int (-1)) = some (.dat (pD l)) := by
        show (atI (f.map pD) (-1)).map _ = _
        rw [last_P hl]; rfl
      have h14 : idxD (pD l) (.int 0) = some (.dat (.int (l.1 : Int))) := rfl
      by_cases hle : p ≤ l.1
      · have h15 : (p : Int) ≤ (l.1 : Int) := by omega
        simp [hin, h9, lateP, hl, h10, h11, h14, h12, h13, t1, t2, hle, h15]
      · have h15 : ¬ (p : Int) ≤ (l.1 : Int) := by omega
        simp [hin, h9, lateP, hl, h10, h11, h14, h12, h13, t1, t2, hle, h15, hsn]
  · rw [e1]
    by_cases h2 : (Txt.split x ">").length = 2
    · have h22 : ((Txt.split x ">").length : Int) = 2 := by omega
      have e3 := e2.resolve_left (fun z => z h2)
      rw [decide_eq_true e3] at hin
      simp [h22, hin, t2]
    · have h22 : ¬ ((Txt.split x ">").length : Int) = 2 := by omega
      simp [h22, t2]
theorem pl_loop {L : List Str} {c : Nat} (hc : c < 11) (hL : LOk L) : ∀ (r : List Str) (i : Nat) (f : List (Nat × Nat)) (s3 s4 s5 s6 : S), L.drop i = r → f.length + r.length ≤ 10000 →
    (forGo none (.one 3) plB (rngItems i r.length) [.dat (sL L), .dat (nD c), .dat (dP f), s3, s4, s5, s6] []).bind (sqK (dRet (dTup (dCons (dVar 2) (dCons (dC .none) (dNil)))))) = some (.rt (.dat (pr ((goP c r i f).map dP))) [])
  | [], i, f, s3, s4, s5, s6, h, hf => by
    have t2 := two_lim
    rw [show rngItems (i : Int) ([] : List Str).length = [] from rfl, forGo_nil0]
    simp [goP, Except.map, pr, t2]
  | x :: r, i, f, s3, s4, s5, s6, h, hf => by
    rw [List.length_cons] at hf
    obtain ⟨s4', s5', s6', e⟩ := pl_turn (c := c) (f := f) (s4 := s4) (s5 := s5) (s6 := s6) h hc (hL.1 x (drop_mem h)).1 (by unfold LIM; omega)
    have e1 : forGo none (.one 3) plB (rngItems i (x :: r).length) [.dat (sL L), .dat (nD c), .dat (dP f), s3, s4, s5, s6] [] = (plB [.dat (sL L), .dat (nD c), .dat (dP f), .dat (nD i), s4, s5, s6] []).bind (fgK none (.one 3) plB (rngItems ((i : Int) + 1) r.length)) := by
      rw [List.length_cons, rng_succ, forGo_cons1]; rfl
    rw [e1, e]
    unfold goP
    cases hw : pair? x c with
    | none => rfl
    | some w =>
      simp only []
      by_cases hl : lateP f w = true
      · rw [if_pos hl, if_pos hl]; rfl
      · rw [if_neg hl, if_neg hl, bind_some', fgK_nx, i_succ]
        exact pl_loop hc hL r (i + 1) (f ++ [w]) (.dat (nD i)) s4' s5' s6' (drop_next h) (by rw [List.length_append, List.length_singleton]; omega)
end K75
set_option Elab.async false
set_option linter.all false
set_option maxRecDepth 100000
set_option maxHeartbeats 1000000
namespace K75
open PySem L2 DD TL StrLaws
theorem in_strs (x : Str) (ws : List Str) : inD (.str x) (.tuple (ws.map .str)) = some (decide (x ∈ ws)) ∧ inD (.str x) (.list (ws.map .str)) = some (decide (x ∈ ws)) := by
  have hf : ((ws.map PyData.str).all flatD) = true := by
    rw [List.all_eq_true]
    intro d hd
    obtain ⟨p, _, rfl⟩ := List.mem_map.mp hd
    rfl
  have hi : inAny (.str x) (ws.map .str) = decide (x ∈ ws) := by
    unfold inAny
    rw [Bool.eq_iff_iff, List.any_eq_true, decide_eq_true_iff]
    constructor
    · rintro ⟨d, hd, he⟩
      obtain ⟨p, hp, rfl⟩ := List.mem_map.mp hd
      simp only [PyData.eqv, beq_iff_eq] at he
      subst he; exact hp
    · intro h
      exact ⟨_, List.mem_map_of_mem h, by simp only [PyData.eqv, beq_self_eq_true]⟩
  constructor
  · show (if flatD (.str x) && (ws.map PyData.str).all flatD then some (inAny (.str x) (ws.map .str)) else none) = _
    rw [hf, hi]; rfl
  · show (if flatD (.str x) && (ws.map PyData.str).all flatD then some (inAny (.str x) (ws.map .str)) else none) = _
    rw [hf, hi]; rfl
theorem ix0 {w : Str} {r : List Str} : idxD (sL (w :: r)) (.int 0) = some (.dat (.str w)) := by
  show (atI ((w :: r).map PyData.str) 0).map _ = _
  rw [head_at]; rfl
theorem r_law_pairs {w : Str} {r : List Str} {c : Nat} (hc : c < 11) (hL : LOk (w :: r)) : run__law_pairs_read [sL (w :: r), nD c] = some (.dat (pr ((pairsR c 1 r).map dP))) := by
  have hl := hL.2
  have hcut : sliceD (sL (w :: r)) (some 1) none = some (.tmp (r.map .str)) := by
    show some (A.tmp (cutD ((w :: r).map .str) (some ((1 : Nat) : Int)) none)) = _
    rw [cut_from]; rfl
  have hsp := r_spots_read (L := w :: r) (c := c) (first := 1) (b := false) hc hL (by simp)
  have hsp : run__law_spots_read [sL (w :: r), .int 1, .int (c : Int), .bool false] = some (.dat (pr ((spots c false 1 r).map dW))) := hsp
  cases r with
  | nil =>
    have heq : eqD (.list []) (.list []) = some true := by decide +kernel
    have hsp : run__law_spots_read [sL [w], .int 1, .int (c : Int), .bool false] = some (.dat (pr (.error 1))) := hsp
    refine runD_rt rfl ?_ rfl
    unfold d__law_pairs_read
    simp [slots, hcut, heq, hsp, nD, pairsR, Except.map]
  | cons x r =>
    have heq := eq_strs (l := x :: r) (m := []) (fun y hy => (hL.1 y (List.mem_cons_of_mem _ hy)).2) (by simp)
    have heq : eqD (.list (.str x :: r.map .str)) (.list []) = some false := heq
    have hix : idxD (sL (w :: x :: r)) (.int 1) = some (.dat (.str x)) := by
      show (atI (PyData.str w :: PyData.str x :: r.map .str) 1).map _ = _
      rw [at1]; rfl
    rw [spots_cons] at hsp
    rw [pairsR_cons]
    by_cases hx : x = "-"
    · subst hx
      rw [if_pos rfl] at hsp ⊢
      by_cases hr : r = []
      · rw [if_pos hr] at hsp ⊢
        have hsp : run__law_spots_read [sL (w :: "-" :: r), .int 1, .int (c : Int), .bool false] = some (.dat (.tuple [.tuple [], .none])) := hsp
        refine runD_rt rfl ?_ rfl
        unfold d__law_pairs_read
        simp [slots, hcut, heq, hix, hsp, nD, Except.map, pr, dP]
      · rw [if_neg hr] at hsp ⊢
        have hsp : run__law_spots_read [sL (w :: "-" :: r), .int 1, .int (c : Int), .bool false] = some (.dat (.tuple [.none, nD 2])) := hsp
        refine runD_rt rfl ?_ rfl
        unfold d__law_pairs_read
        simp [slots, hcut, heq, hix, hsp, nD, Except.map, pr]
    · rw [if_neg hx]
      have key := pl_loop hc hL (x :: r) 1 [] .un .un .un .un rfl (by simp at hl ⊢; omega)
      have hit := itR2 (sl := [.dat (sL (w :: x :: r)), .dat (nD c), .dat (dP []), .un, .un, .un, .un]) (io := []) (a := dCons (dC (.int 1)) (dCons (dCall lenD (dCons (dVar 0) (dNil))) (dNil))) (i := 1) (n := (x :: r).length) (m := (w :: x :: r).length) (by simp [len_sL]; rfl) (by simp; omega) (by simp at hl ⊢; omega)
      have hpre : ∀ (q : DS), (dSeq (dSet 2 (dTup (dNil))) (dSeq (dFor (dItR2 (dCons (dC (.int 1)) (dCons (dCall lenD (dCons (dVar 0) (dNil))) (dNil)))) (.one 3) plB) q)) [.dat (sL (w :: x :: r)), .dat (nD c), .un, .un, .un, .un, .un] [] = (forGo none (.one 3) plB (rngItems (1 : Nat) (x :: r).length) [.dat (sL (w :: x :: r)), .dat (nD c), .dat (dP []), .un, .un, .un, .un] []).bind (sqK q) := by
        intro q
        simp only [dSeq_ap, dSet_ap, dTup_ap, dNil_ap, bind_some', vwIs_nil, List.length_nil, Nat.zero_le, if_true, Option.map_some, sqK_nx, List.set_cons_succ, List.set_cons_zero, slotOf_dat, dFor_ap]
        rw [show (PyData.tuple []) = dP [] from rfl, hit]
        rfl
      refine runD_rt rfl ⟨[], ?_, trivial⟩ (im_pr fun d hd => by
        cases hg : goP c (x :: r) 1 [] with
        | ok g => rw [hg] at hd; cases hd; show imAll _ = true; simp
        | error j => rw [hg] at hd; cases hd)
      refine Eq.trans ?_ key
      rw [← hpre]
      unfold d__law_pairs_read plB
      simp [slots, hcut, heq, hix, hx]
/-! doors -/
def doorR (c : Nat) (L : List Str) : Rd D := match L with
  | [] => .error 0
  | w :: r => if w = "swap" then (pairsR c 1 r).map fun qs => .tuple [.str w, dP qs] else if w ∈ ([("only" : Str), "lift", "head", "pad"] : List Str) then (spots c (decide (w ∈ ([("only" : Str), "lift"] : List Str))) 1 r).map fun ws => .tuple [.str w, dW ws] else .error 0
theorem doorR_cons {c : Nat} {w : Str} {r : List Str} : doorR c (w :: r) = if w = "swap" then (pairsR c 1 r).map fun qs => .tuple [.str w, dP qs] else if w ∈ ([("only" : Str), "lift", "head", "pad"] : List Str) then (spots c (decide (w ∈ ([("only" : Str), "lift"] : List Str))) 1 r).map fun ws => .tuple [.str w, dW ws] else .error 0 := rfl
theorem r_gate_read {w : Str} {r : List Str} {c : Nat} (hc : c < 11) (hL : LOk (w :: r)) : run__law_gate_read [sL (w :: r), nD c] = some (.dat (pr (doorR c (w :: r)))) := by
  have h1 := r_law_pairs hc hL
  have h2 : ∀ b, run__law_spots_read [sL (w :: r), .int 1, nD c, .bool b] = _ := fun b => r_spots_read (L := w :: r) (c := c) (first := 1) (b := b) hc hL (by simp)
  have i5 := (in_strs w ["only", "lift", "swap", "head", "pad"]).2
  have i2 := (in_strs w ["only", "lift"]).2
  simp only [List.map_cons, List.map_nil] at i5 i2
  have t5 : 5 ≤ LIM := by decide
  have t2 := two_lim
  rw [doorR_cons]
  by_cases hs : w = "swap"
  · rw [if_pos hs]
    subst hs
    have i5' : inD (.str "swap") (.list [.str "only", .str "lift", .str "swap", .str "head", .str "pad"]) = some true := by decide +kernel
    cases hp : pairsR c 1 r with
    | error j =>
      rw [hp] at h1
      have h1 : run__law_pairs_read [sL ("swap" :: r), nD c] = some (.dat (.tuple [.none, nD j])) := h1
      refine runD_rt rfl ?_ rfl
      unfold d__law_gate_read
      simp [slots, ix0, i5', t5, t2, h1, tgGo, setAll, Except.map, pr]
    | ok g =>
      rw [hp] at h1
      have h1 : run__law_pairs_read [sL ("swap" :: r), nD c] = some (.dat (.tuple [dP g, .none])) := h1
      refine runD_rt rfl ?_ (by show imAll _ = true; simp [Except.map, dP])
      unfold d__law_gate_read
      simp [slots, ix0, i5', t5, t2, h1, tgGo, setAll, Except.map, pr]
  · rw [if_neg hs]
    by_cases hm : w ∈ ([("only" : Str), "lift", "head", "pad"] : List Str)
    · rw [if_pos hm]
      have hm5 : w ∈ ([("only" : Str), "lift", "swap", "head", "pad"] : List Str) := by
        simp only [List.mem_cons, List.not_mem_nil, or_false] at hm ⊢
        rcases hm with h | h | h | h <;> simp [h]
      rw [decide_eq_true hm5] at i5
      have h3 := h2 (decide (w ∈ ([("only" : Str), "lift"] : List Str)))
      cases hp : spots c (decide (w ∈ ([("only" : Str), "lift"] : List Str))) 1 r with
      | error j =>
        have h3 : run__law_spots_read [sL (w :: r), .int 1, nD c, .bool (decide (w ∈ ([("only" : Str), "lift"] : List Str)))] = some (.dat (.tuple [.none, nD j])) := by
          rw [h3]; simp only [List.drop_succ_cons, List.drop_zero, hp]; rfl
        refine runD_rt rfl ?_ rfl
        unfold d__law_gate_read
        simp [slots, ix0, i5, i2, t5, t2, hs] at h3 ⊢
        simp [h3, tgGo, setAll, Except.map, pr, t2]
      | ok g =>
        have h3 : run__law_spots_read [sL (w :: r), .int 1, nD c, .bool (decide (w ∈ ([("only" : Str), "lift"] : List Str)))] = some (.dat (.tuple [dW g, .none])) := by
          rw [h3]; simp only [List.drop_succ_cons, List.drop_zero, hp]; rfl
        refine runD_rt rfl ?_ (by show imAll _ = true; simp [Except.map, dW])
        unfold d__law_gate_read
        simp [slots, ix0, i5, i2, t5, t2, hs] at h3 ⊢
        simp [h3, tgGo, setAll, Except.map, pr, t2, ix0]
    · rw [if_neg hm]
      have hm5 : ¬ w ∈ ([("only" : Str), "lift", "swap", "head", "pad"] : List Str) := by
        simp only [List.mem_cons, List.not_mem_nil, or_false] at hm ⊢
        rintro (h | h | h | h | h)
        · exact hm (.inl h)
        · exact hm (.inr (.inl h))
        · exact hs h
        · exact hm (.inr (.inr (.inl h)))
        · exact hm (.inr (.inr (.inr h)))
      rw [decide_eq_false hm5] at i5
      refine runD_rt rfl ?_ rfl
      unfold d__law_gate_read
      simp [slots, ix0, i5, t5, t2, pr, nD]
theorem im_run {o : Rd D} (h : ∀ d, o = .ok d → im d = true) : True := trivial
theorem r_read_door {ps : List Nat} (ht : TreeOk ps) {x w : Str} {r : List Str} (hw : splitD x [.str " "] = some (.tmp ((w :: r).map .str))) (hL : LOk (w :: r)) : run_read_door [dT ps, .str x] = some (fo (doorR (ps.length + 1) (w :: r))) := by
  have hc : ps.length + 1 < 11 := by have := ht.1; omega
  have hnt := r_need_tree ps ht
  have h1 := r_pairs_read (L := w :: r) (first := 1) hc hL (by simp)
  have h1 : run_pairs_read [sL (w :: r), .int 1, .int ((ps.length : Int) + 1)] = some (fo ((pairsR (ps.length + 1) 1 r).map dP)) := h1
  have h2 : ∀ b, run_locales_read [sL (w :: r), .int 1, .int ((ps.length : Int) + 1), .bool b] = some (fo ((spots (ps.length + 1) b 1 r).map dW)) := fun b => r_locales_read (L := w :: r) (first := 1) (b := b) hc hL (by simp)
  have i4 := (in_strs w ["only", "lift", "head", "pad"]).1
  have i2 := (in_strs w ["only", "lift"]).1
  simp only [List.map_cons, List.map_nil] at i4 i2
  have t4 : 4 ≤ LIM := by decide
  have t2 := two_lim
  have h3 := len_dT ps
  have hpre : ∀ q : DXS, (xSeq (xS (dDrop (dFn run_need_tree (dCons (dVar 0) (dNil))))) (xSeq (xS (dSet 2 (dMeth splitD (dVar 1) (dCons (dC (.str " ")) (dNil))))) (xSeq (xS (dSet 3 (dOp idxD (dVar 2) (dC (.int 0))))) q))) (slots 4 ([dT ps, .str x].map .dat)) [] = q [.dat (dT ps), .dat (.str x), .dat (sL (w :: r)), .dat (.str w)] [] := by
    intro q
    have := ix0 (w := w) (r := r)
    unfold sL at this ⊢
    simp only [List.map_cons] at this hw
    simp [slots, -splitD_str, hw, hnt, -idxD_lst, this]
  rw [doorR_cons]
  by_cases hs : w = "swap"
  · rw [if_pos hs]
    subst hs
    cases hp : pairsR (ps.length + 1) 1 r with
    | error j =>
      rw [hp] at h1
      have h1 : run_pairs_read [sL ("swap" :: r), .int 1, .int ((ps.length : Int) + 1)] = some (.ex (ew j)) := h1
      refine runX_ex rfl ?_
      unfold d_read_door
      rw [hpre]
      simp [h3, h1]
    | ok g =>
      rw [hp] at h1
      have h1 : run_pairs_read [sL ("swap" :: r), .int 1, .int ((ps.length : Int) + 1)] = some (.ok (.dat (dP g))) := h1
      refine runX_dat rfl ?_ (by show imAll _ = true; simp [dP])
      unfold d_read_door
      rw [hpre]
      simp [h3, h1, t2]
  · rw [if_neg hs]
    by_cases hm : w ∈ ([("only" : Str), "lift", "head", "pad"] : List Str)
    · rw [if_pos hm]
      rw [decide_eq_true hm] at i4
      have h4 := h2 (decide (w ∈ ([("only" : Str), "lift"] : List Str)))
      cases hp : spots (ps.length + 1) (decide (w ∈ ([("only" : Str), "lift"] : List Str))) 1 r with
      | error j =>
        rw [hp] at h4
        have h4 : run_locales_read [sL (w :: r), .int 1, .int ((ps.length : Int) + 1), .bool (decide (w ∈ ([("only" : Str), "lift"] : List Str)))] = some (.ex (ew j)) := h4
        refine runX_ex rfl ?_
        unfold d_read_door
        rw [hpre]
        simp [h3, i4, i2, t4, t2, hs] at h4 ⊢
        simp [h4]
      | ok g =>
        rw [hp] at h4
        have h4 : run_locales_read [sL (w :: r), .int 1, .int ((ps.length : Int) + 1), .bool (decide (w ∈ ([("only" : Str), "lift"] : List Str)))] = some (.ok (.dat (dW g))) := h4
        refine runX_dat rfl ?_ (by show imAll _ = true; simp [dW])
        unfold d_read_door
        rw [hpre]
        simp [h3, i4, i2, t4, t2, hs] at h4 ⊢
        simp [h4, t2]
    · rw [if_neg hm]
      rw [decide_eq_false hm] at i4
      refine runX_ex rfl ?_
      unfold d_read_door
      rw [hpre]
      simp [i4, t4, hs, ew, nD]
theorem r_read_wishes {ps : List Nat} (ht : TreeOk ps) {x : Str} {L : List Str} (hw : splitD x [.str " "] = some (.tmp (L.map .str))) (hL : LOk L) : run_read_wishes [dT ps, .str x] = some (fo ((spots (ps.length + 1) false 0 L).map dW)) := by
  have hc : ps.length + 1 < 11 := by have := ht.1; omega
  have hnt := r_need_tree ps ht
  have h2 : run_locales_read [.list (L.map .str), .int 0, .int ((ps.length : Int) + 1), .bool false] = some (fo ((spots (ps.length + 1) false 0 L).map dW)) := r_locales_read (L := L) (first := 0) (b := false) hc hL (by simp)
  have h3 := len_dT ps
  cases hp : spots (ps.length + 1) false 0 L with
  | error j =>
    rw [hp] at h2
    have h2 : run_locales_read [.list (L.map .str), .int 0, .int ((ps.length : Int) + 1), .bool false] = some (.ex (ew j)) := h2
    refine runX_ex rfl ?_
    unfold d_read_wishes
    simp [slots, hnt, -splitD_str, hw, h3, h2]
  | ok g =>
    rw [hp] at h2
    have h2 : run_locales_read [.list (L.map .str), .int 0, .int ((ps.length : Int) + 1), .bool false] = some (.ok (.dat (dW g))) := h2
    refine runX_dat rfl ?_ (by show imAll _ = true; simp)
    unfold d_read_wishes
    simp [slots, hnt, -splitD_str, hw, h3, h2]
theorem upto_0 : ∀ l : List Str, upto 0 l = l
  | [] => rfl
  | x :: r => by unfold upto; rw [if_neg (by simp [stops]), upto_0 r]
theorem r_read_tree {x w : Str} {r : List Str} (hw : splitD x [.str " "] = some (.tmp ((w :: r).map .str))) (hL : LOk (w :: r)) : run_read_tree [.str x] = some (fo ((wrld 0 (w :: r)).map dT)) := by
  rw [wrld_cons, upto_0]
  have h1 := ix0 (w := w) (r := r)
  have hpr := r_parents_read (L := w :: r) (first := 1) (last := r.length + 1) (r := r) (t := []) hL (by simp) (by omega) (by simp)
  have hpr : run_parents_read [sL (w :: r), .int 1, nD (r.length + 1)] = some (fo ((goT r 1 []).map dT)) := hpr
  have hlen : lenD [sL (w :: r)] = some (.dat (nD (r.length + 1))) := len_sL (w :: r)
  have hpre : ∀ q : DXS, (xSeq (xS (dSet 1 (dMeth splitD (dVar 0) (dCons (dC (.str " ")) (dNil))))) q) (slots 2 ([PyData.str x].map .dat)) [] = q [.dat (.str x), .dat (sL (w :: r))] [] := by
    intro q
    simp [slots, -splitD_str, hw, sL]
  by_cases hx : w = "tree"
  · rw [if_pos hx]
    subst hx
    cases hp : goT r 1 [] with
    | error j =>
      rw [hp] at hpr
      have hpr : run_parents_read [sL ("tree" :: r), .int 1, nD (r.length + 1)] = some (.ex (ew j)) := hpr
      refine runX_ex rfl ?_
      unfold d_read_tree
      rw [hpre]
      simp [h1, hlen, hpr]
    | ok g =>
      rw [hp] at hpr
      have hpr : run_parents_read [sL ("tree" :: r), .int 1, nD (r.length + 1)] = some (.ok (.dat (dT g))) := hpr
      refine runX_dat rfl ?_ (by show imAll _ = true; simp)
      unfold d_read_tree
      rw [hpre]
      simp [h1, hlen, hpr]
  · rw [if_neg hx]
    refine runX_ex rfl ?_
    unfold d_read_tree
    rw [hpre]
    simp [h1, hx, ew, nD]
end K75
set_option Elab.async false
set_option linter.all false
set_option maxRecDepth 100000
set_option maxHeartbeats 1000000
namespace K75
open PySem L2 DD TL StrLaws
def isxK (tab : Str → Option Bool) : A × IO → Option (A × IO) := fun p => match p.1 with
  | .dat (.dict ((.str n, _) :: _)) => (tab n).map fun b => (.dat (.bool b), p.2)
  | _ => none
theorem isxK_ap {tab : Str → Option Bool} {n : Str} {d : D} {r : List (D × D)} {io : IO} : isxK tab (.dat (.dict ((.str n, d) :: r)), io) = (tab n).map fun b => (.dat (.bool b), io) := rfl
theorem dIsx_ap {tab : Str → Option Bool} {f : DE} {sl : List S} {io : IO} : dIsx tab f sl io = (f sl io).bind (isxK tab) := rfl
def fldK (at_ : Str) (okc : Str → Bool) : A × IO → Option (A × IO) := fun p => match p.1 with
  | .dat (.dict [(.str n, .str f1), (.str _, v)]) => if f1 = at_ ∧ okc n = true then some (.dat v, p.2) else none
  | _ => none
theorem fldK_ap {at_ n f1 f2 : Str} {okc : Str → Bool} {v : D} {io : IO} : fldK at_ okc (.dat (.dict [(.str n, .str f1), (.str f2, v)]), io) = if f1 = at_ ∧ okc n = true then some (.dat v, io) else none := rfl
theorem dFld_ap {at_ : Str} {okc : Str → Bool} {f : DE} {sl : List S} {io : IO} : dFld at_ okc f sl io = (f sl io).bind (fldK at_ okc) := rfl
def mkK (n f : Str) : List A × IO → Option (A × IO) := fun p => match p.1 with
  | [.dat v] => if im v = true then some (.dat (exData ⟨n, some (f, v)⟩), p.2) else none
  | _ => none
theorem mul1' {d : D} : mulD (.list [d]) (.int 1) = some (.tmp [d]) := by
  unfold mulD
  exact if_pos ⟨by decide, by decide, (by show 1 * 1 ≤ LIM; decide)⟩
theorem mul0' {d : D} : mulD (.list [d]) (.int 0) = some (.tmp []) := by
  unfold mulD
  exact if_pos ⟨by decide, by decide, (by show 1 * 0 ≤ LIM; decide)⟩
def ed (j : Nat) : D := .dict [(.str "InvalidWords", .str "place"), (.str "place", nD j)]
theorem ex_ed (j : Nat) : exData (ew j) = ed j := rfl
theorem sub_facts : sub_InvalidTree "InvalidWords" = some false ∧ sub_InvalidLocale "InvalidWords" = some false ∧ sub_InvalidWishes "InvalidWords" = some false ∧ sub_InvalidWay "InvalidWords" = some false ∧ sub_InvalidCatalog "InvalidWords" = some false ∧ sub_InvalidKey "InvalidWords" = some false ∧ sub_InvalidText "InvalidWords" = some false ∧ sub_InvalidPage "InvalidWords" = some false ∧ sub_InvalidDoor "InvalidWords" = some false ∧ sub_InvalidChoice "InvalidWords" = some false ∧ sub_InvalidIndex "InvalidWords" = some false ∧ sub_Unlike "InvalidWords" = some false ∧ sub_Needless "InvalidWords" = some false ∧ sub_NothingThere "InvalidWords" = some false ∧ sub_NoBlock "InvalidWords" = some false ∧ sub_NothingToUndo "InvalidWords" = some false ∧ sub_InvalidCommand "InvalidWords" = some false ∧ sub_Mixed "InvalidWords" = some false ∧ sub_InvalidWords "InvalidWords" = some true ∧ sub_WishError "InvalidWords" = some true ∧ sub_ValueError "InvalidWords" = some true := by
  refine ⟨?_, ?_, ?_, ?_, ?_, ?_, ?_, ?_, ?_, ?_, ?_, ?_, ?_, ?_, ?_, ?_, ?_, ?_, ?_, ?_, ?_⟩ <;> exact if_pos rfl
theorem r_stands_under (j : Nat) : run__law_stands_under [ed j] = some (.tmp [.int 18]) := by
  obtain ⟨a1, a2, a3, a4, a5, a6, a7, a8, a9, a10, a11, a12, a13, a14, a15, a16, a17, a18, a19, a20, a21⟩ := sub_facts
  have t1 := lim1
  refine runD_rf (k := 9) rfl ?_
  unfold d__law_stands_under
  simp [slots, ed, dIsx_ap, isxK_ap, a1, a2, a3, a4, a5, a6, a7, a8, a9, a10, a11, a12, a13, a14, a15, a16, a17, a18, a19, a20, a21, mul0', mul1', t1]
/-! the four readers -/
def rdr (k : Nat) (ps : List Nat) (L : List Str) : Rd D := match k with
  | 0 => (spots (ps.length + 1) false 0 L).map dW
  | 1 => (wrld 0 L).map dT
  | 2 => bookR L
  | _ => doorR (ps.length + 1) L
theorem plB' : True := trivial
def plQ : DS := (dSeq (dIf (dTst (dOp isD (dVar 4) (dC .none))) (dRet (dTup (dCons (dVar 3) (dCons (dC .none) (dNil))))) (dNext)) (dSeq (dIf (dTst (dOp neO (dFn run__law_stands_under (dCons (dVar 4) (dNil))) (dLst (dCons (dC (.int 18)) (dNil))))) (dRet (dTup (dCons (dC .none) (dCons (dC (.str "another class")) (dNil))))) (dNext)) (dRet (dTup (dCons (dC .none) (dCons (dFld "place" okc_place (dVar 4)) (dNil)))))))
theorem plQ_ok {a b c : S} {d : D} {s5 : S} : plQ [a, b, c, .dat d, .dat .none, s5] [] = some (.rt (.dat (.tuple [d, .none])) []) := by
  have t2 := two_lim
  unfold plQ
  simp [t2]
theorem ok_place : okc_place "InvalidWords" = true := by decide +kernel
theorem plQ_ex {a b c : S} {j : Nat} {s5 : S} : plQ [a, b, c, .dat .none, .dat (ed j), s5] [] = some (.rt (.dat (.tuple [.none, nD j])) []) := by
  have t1 := lim1
  have t2 := two_lim
  have h := r_stands_under j
  have h0 : isNonD (ed j) = false := rfl
  have heq : eqD (.list [.int 18]) (.list [.int 18]) = some true := by decide +kernel
  have h2 : ∀ io : IO, fldK "place" okc_place (.dat (ed j), io) = some (.dat (nD j), io) := fun io => by
    unfold ed
    rw [fldK_ap, if_pos ⟨rfl, ok_place⟩]
  unfold plQ
  simp [t1, t2, h0, h, heq, dFld_ap, h2]
def plT : DXS := (xIf (xT (dTst (dOp eqO (dVar 0) (dC (.int 0))))) (xSet 3 (xFn run_read_wishes (dCons (dVar 1) (dCons (dVar 2) (dNil))))) (xIf (xT (dTst (dOp eqO (dVar 0) (dC (.int 1))))) (xSet 3 (xFn run_read_tree (dCons (dVar 2) (dNil)))) (xIf (xT (dTst (dOp eqO (dVar 0) (dC (.int 2))))) (xSet 3 (xFn run_read_catalog (dCons (dVar 2) (dNil)))) (xSet 3 (xFn run_read_door (dCons (dVar 1) (dCons (dVar 2) (dNil))))))))
theorem plT_run {ps : List Nat} {x : Str} {k : Nat} (hk : k < 4) {o : FO} (h : ∀ sl : List S, sl[0]? = some (.dat (nD k)) → sl[1]? = some (.dat (dT ps)) → sl[2]? = some (.dat (.str x)) → plT sl [] = some (xsetK 3 sl (o, []))) : plT [.dat (nD k), .dat (dT ps), .dat (.str x), .dat .none, .dat .none, .un] [] = some (xsetK 3 [.dat (nD k), .dat (dT ps), .dat (.str x), .dat .none, .dat .none, .un] (o, [])) := h _ rfl rfl rfl
theorem r_placed_of {ps : List Nat} {x : Str} {k : Nat} {r : Rd D} (h : plT [.dat (nD k), .dat (dT ps), .dat (.str x), .dat .none, .dat .none, .un] [] = some (xsetK 3 [.dat (nD k), .dat (dT ps), .dat (.str x), .dat .none, .dat .none, .un] (fo r, []))) (hi : ∀ d, r = .ok d → im d = true) : run__law_placed [nD k, dT ps, .str x] = some (.dat (pr r)) := by
  refine runD_rt rfl ⟨[], ?_, trivial⟩ (im_pr hi)
  have hd : d__law_placed = dSeq (dSet 3 (dC .none)) (dSeq (dSet 4 (dC .none)) (dSeq (xTry plT "InvalidWords" 5 (dSet 4 (dVar 5))) plQ)) := rfl
  rw [hd]
  cases r with
  | ok d =>
    simp [slots, h, fo]
    rw [plQ_ok]; rfl
  | error j =>
    simp [slots, h, fo, ew]
    exact plQ_ex
theorem spl_ok {x : Str} {L : List Str} (h : Txt.split x " " = L) (hx : x.length ≤ LIM) : splitD x [.str " "] = some (.tmp (L.map .str)) := by
  rw [splitD_str, if_pos ⟨by rw [sp_len]; rfl, hx⟩, h]
theorem im_rdr {k : Nat} {ps : List Nat} {L : List Str} : ∀ d, rdr k ps L = .ok d → im d = true := by
  intro d h
  unfold rdr at h
  split at h
  · cases hs : spots (ps.length + 1) false 0 L with
    | error j => rw [hs] at h; cases h
    | ok g => rw [hs] at h; cases h; show imAll _ = true; simp
  · cases hs : wrld 0 L with
    | error j => rw [hs] at h; cases h
    | ok g => rw [hs] at h; cases h; show imAll _ = true; simp
  · unfold bookR at h
    split at h
    · cases h
    · split at h
      · split at h
        · cases h
        · split at h
          · cases h
          · revert h
            generalize goR _ _ _ _ = o
            intro h
            cases o with
            | error j => cases h
            | ok g => cases h; exact im_dK _ _ _
      · cases h
  · unfold doorR at h
    split at h
    · cases h
    · rename_i w r
      split at h
      · cases hs : pairsR (ps.length + 1) 1 r with
        | error j => rw [hs] at h; cases h
        | ok g => rw [hs] at h; cases h; show imAll _ = true; simp [dP]
      · split at h
        · cases hs : spots (ps.length + 1) (decide (w ∈ ([("only" : Str), "lift"] : List Str))) 1 r with
          | error j => rw [hs] at h; cases h
          | ok g => rw [hs] at h; cases h; show imAll _ = true; simp [dW]
        · cases h
theorem r_placed {ps : List Nat} (ht : TreeOk ps) {x : Str} {L : List Str} {k : Nat} (hk : k < 4) (hx : x.length ≤ LIM) (h : Txt.split x " " = L) (h0 : L ≠ []) (hL : LOk L) (hl : k = 2 → L.length ≤ 2900) : run__law_placed [nD k, dT ps, .str x] = some (.dat (pr (rdr k ps L))) := by
  have hw := spl_ok h hx
  refine r_placed_of ?_ im_rdr
  match k, hk with
  | 0, _ =>
    have e := r_read_wishes ht hw hL
    unfold plT
    simp [nD, e, rdr]
  | 1, _ =>
    cases L with
    | nil => exact absurd rfl h0
    | cons w r =>
      have e := r_read_tree hw hL
      unfold plT
      simp [nD, e, rdr]
  | 2, _ =>
    have e := r_read_catalog hw h0 hL (hl rfl)
    unfold plT
    simp [nD, e, rdr]
  | 3, _ =>
    cases L with
    | nil => exact absurd rfl h0
    | cons w r =>
      have e := r_read_door ht hw hL
      unfold plT
      simp [nD, e, rdr]
theorem r_text_read {ps : List Nat} (ht : TreeOk ps) {x : Str} {L : List Str} {k : Nat} (hk : k < 4) (hx : x.length ≤ LIM) (h : Txt.split x " " = L) (h0 : L ≠ []) (hL : LOk L) : run__law_text_read [nD k, dT ps, .str x] = some (.dat (pr (rdr k ps L))) := by
  have hw := spl_ok h hx
  have hc : ps.length + 1 < 11 := by have := ht.1; omega
  have h3 := len_dT ps
  refine runD_rt rfl ?_ (im_pr im_rdr)
  match k, hk with
  | 0, _ =>
    have e : run__law_spots_read [sL L, .int 0, .int ((ps.length : Int) + 1), .bool false] = some (.dat (pr ((spots (ps.length + 1) false 0 L).map dW))) := r_spots_read (first := 0) hc hL (by simp)
    unfold d__law_text_read
    simp only [sL] at e
    simp [slots, nD, -splitD_str, hw, h3, e, rdr]
  | 1, _ =>
    have e : run__law_world_read [sL L, .int 0] = some (.dat (pr ((wrld 0 L).map dT))) := r_world_read (a := 0) (by simp) hL
    unfold d__law_text_read
    simp only [sL] at e
    simp [slots, nD, -splitD_str, hw, h3, e, rdr]
  | 2, _ =>
    have e := r_book_read h0 hL
    unfold d__law_text_read
    simp only [sL] at e
    simp [slots, nD, -splitD_str, hw, h3, e, rdr]
  | 3, _ =>
    cases L with
    | nil => exact absurd rfl h0
    | cons w r =>
      have e : run__law_gate_read [sL (w :: r), .int ((ps.length : Int) + 1)] = _ := r_gate_read hc hL
      unfold d__law_text_read
      simp only [sL] at e
      simp [slots, nD, -splitD_str, h3, rdr] at hw e ⊢
      simp [-splitD_str, hw, e, h3]
/-! small enough -/
theorem pair_small {d : D} (h : Small d) (h1 : PyData.weight d ≤ 8000) (h2 : PyData.depth d ≤ 60) : Small (.tuple [d, .none]) := by
  refine ⟨?_, ?_, ?_⟩
  · simp only [leaf, leafs, h.lf]; rfl
  · simp only [PyData.depth, PyData.depthAll]; omega
  · simp only [PyData.weight, PyData.weightAll]; omega
theorem dW_wt {ws : List Nat} (hw : ∀ w ∈ ws, w < 10) (hl : ws.length ≤ 100) : leaf (dW ws) = true ∧ PyData.depth (dW ws) ≤ 1 ∧ PyData.weight (dW ws) ≤ 2200 := by
  obtain ⟨a, b, c⟩ := (nD_each hw).all
  rw [List.length_map] at c
  unfold dW
  exact ⟨by simpa only [leaf] using a, by simp only [PyData.depth]; omega, by simp only [PyData.weight]; omega⟩
theorem dP_wt {qs : List (Nat × Nat)} (hq : ∀ q ∈ qs, q.1 < 10 ∧ q.2 < 10) (hl : qs.length ≤ 100) : leaf (dP qs) = true ∧ PyData.depth (dP qs) ≤ 2 ∧ PyData.weight (dP qs) ≤ 4500 := by
  obtain ⟨a, b, c⟩ := (pD_each hq).all
  rw [List.length_map] at c
  unfold dP
  exact ⟨by simpa only [leaf] using a, by simp only [PyData.depth]; omega, by simp only [PyData.weight]; omega⟩
theorem nD_small {j : Nat} (h : j < 1000000) : Small (nD j) := Small.int (by omega)
theorem none_nD {j : Nat} (h : j < 100000) : Small (.tuple [.none, nD j]) := by
  have h1 := nD_small (j := j) (by omega)
  refine ⟨?_, ?_, ?_⟩
  · simp only [leaf, leafs, h1.lf]; rfl
  · simp only [nD, PyData.depth, PyData.depthAll]; omega
  · have := int_wt (i := (j : Int)) (by omega) 21 (by omega)
    simp only [nD] at this ⊢
    simp only [PyData.weight, PyData.weightAll] at this ⊢
    omega
theorem tag_small {w : Str} {d : D} (hw : SgOk w) (hl : w.length ≤ 10) (h : leaf d = true ∧ PyData.depth d ≤ 2 ∧ PyData.weight d ≤ 4500) : Small (.tuple [.tuple [.str w, d], .none]) := by
  obtain ⟨a, b, c⟩ := h
  have hw' : leaf (.str w) = true := by unfold SgOk at hw; simpa only [leaf] using hw
  have hls : w.length = w.cps.size := rfl
  refine ⟨?_, ?_, ?_⟩
  · simp only [leaf, leafs, a, Bool.and_true, Bool.true_and] at hw' ⊢; exact hw'
  · simp only [PyData.depth, PyData.depthAll]; omega
  · simp only [PyData.weight, PyData.weightAll]; omega
theorem goP_ok {c : Nat} : ∀ {r : List Str} {i : Nat} {f g : List (Nat × Nat)}, goP c r i f = .ok g → (g.length = f.length + r.length) ∧ ∀ q ∈ g, q ∈ f ∨ (q.1 < c ∧ q.2 < c)
  | [], i, f, g, h => by cases h; exact ⟨by simp, fun w hw => .inl hw⟩
  | x :: r, i, f, g, h => by
    unfold goP at h
    split at h
    · cases h
    · rename_i w hw
      split at h
      · cases h
      · obtain ⟨h1, h2⟩ := goP_ok h
        refine ⟨by rw [h1]; simp; omega, fun v hv => ?_⟩
        rcases h2 v hv with h3 | h3
        · rcases List.mem_append.mp h3 with h4 | h4
          · exact .inl h4
          · rw [List.mem_singleton] at h4
            subst h4
            refine .inr ?_
            unfold pair? at hw
            split at hw
            · split at hw
              · cases hw; constructor <;> simp only [] <;> omega
              · cases hw
            · cases hw
        · exact .inr h3
theorem pairsR_ok {c first : Nat} {l : List Str} {g : List (Nat × Nat)} (h : pairsR c first l = .ok g) : g.length ≤ l.length ∧ ∀ q ∈ g, q.1 < c ∧ q.2 < c := by
  cases l with
  | nil => cases h
  | cons x r =>
    rw [pairsR_cons] at h
    split at h
    · split at h
      · cases h; exact ⟨by simp, by simp⟩
      · cases h
    · obtain ⟨h1, h2⟩ := goP_ok h
      exact ⟨by rw [h1]; simp, fun w hw => (h2 w hw).resolve_left (by simp)⟩
theorem goL_err {c : Nat} {b : Bool} : ∀ {r : List Str} {i : Nat} {f : List Nat} {j : Nat}, goL c b r i f = .error j → j < i + r.length
  | [], i, f, j, h => by cases h
  | x :: r, i, f, j, h => by
    unfold goL at h
    rw [List.length_cons]
    split at h
    · cases h; omega
    · split at h
      · cases h; omega
      · have := goL_err h; omega
theorem goP_err {c : Nat} : ∀ {r : List Str} {i : Nat} {f : List (Nat × Nat)} {j : Nat}, goP c r i f = .error j → j < i + r.length
  | [], i, f, j, h => by cases h
  | x :: r, i, f, j, h => by
    unfold goP at h
    rw [List.length_cons]
    split at h
    · cases h; omega
    · split at h
      · cases h; omega
      · have := goP_err h; omega
theorem spots_err {c : Nat} {b : Bool} {first : Nat} {l : List Str} {j : Nat} (h : spots c b first l = .error j) : j ≤ first + l.length := by
  cases l with
  | nil => cases h; simp
  | cons x r =>
    rw [spots_cons] at h
    split at h
    · split at h
      · cases h
      · cases h; simp
    · have := goL_err h; simp at this ⊢; omega
theorem pairs_err {c first : Nat} {l : List Str} {j : Nat} (h : pairsR c first l = .error j) : j ≤ first + l.length := by
  cases l with
  | nil => cases h; simp
  | cons x r =>
    rw [pairsR_cons] at h
    split at h
    · split at h
      · cases h
      · cases h; simp
    · have := goP_err h; simp at this ⊢; omega
theorem upto_le (a : Nat) : ∀ l : List Str, (upto a l).length ≤ l.length
  | [] => Nat.le_refl _
  | x :: r => by
    unfold upto
    split
    · simp
    · simp [upto_le a r]
theorem wrld_err {a : Nat} {l : List Str} {j : Nat} (h : wrld a l = .error j) : j ≤ a + l.length := by
  cases l with
  | nil => cases h; simp
  | cons x r =>
    rw [wrld_cons] at h
    split at h
    · have := goT_err h
      have := upto_le a r
      simp; omega
    · cases h; simp
theorem goR_err : ∀ {n : Nat} {r : List Str} {i : Nat} {f : List Row} {j : Nat}, goR n r i f = .error j → j ≤ i + n
  | 0, [], i, f, j, h => by cases h
  | 0, _ :: _, i, f, j, h => by cases h; omega
  | n + 1, [], i, f, j, h => by cases h; omega
  | n + 1, x :: r, i, f, j, h => by
    unfold goR at h
    split at h
    · cases h; omega
    · split at h
      · cases h; omega
      · have := goR_err h; omega
end K75
set_option Elab.async false
set_option linter.all false
set_option maxRecDepth 100000
set_option maxHeartbeats 1000000
namespace K75
open PySem L2 DD TL StrLaws
/-! words changed -/
structure WdOk (m : Nat) (w : Str) : Prop where
  ln : w.length ≤ m
  sp : 32 ∉ tl w
  sg : ∀ c ∈ tl w, c < 0x110000
theorem WdOk.sgo {m : Nat} {w : Str} (h : WdOk m w) : SgOk w := by
  unfold SgOk
  rw [← Array.all_toList, List.all_eq_true]
  intro c hc
  exact decide_eq_true (h.sg c hc)
theorem WdOk.mono {m n : Nat} {w : Str} (h : WdOk m w) (hm : m ≤ n) : WdOk n w := ⟨Nat.le_trans h.ln hm, h.sp, h.sg⟩
theorem WdOk.app {m n : Nat} {w x : Str} (h : WdOk m w) (g : WdOk n x) : WdOk (m + n) (w ++ x) := by
  refine ⟨?_, ?_, ?_⟩
  · rw [app_len]; have := h.ln; have := g.ln; omega
  · rw [tl_append, List.mem_append]; rintro (z | z); exact h.sp z; exact g.sp z
  · intro c hc
    rw [tl_append, List.mem_append] at hc
    rcases hc with z | z
    · exact h.sg c z
    · exact g.sg c z
theorem cut_mem {x : Str} {lo hi : Option Int} {c : Nat} (h : c ∈ tl (cutS x lo hi)) : c ∈ tl x := List.mem_of_mem_drop (List.mem_of_mem_take h)
theorem WdOk.cut {m : Nat} {w : Str} (h : WdOk m w) (lo hi : Option Int) : WdOk m (cutS w lo hi) :=
  ⟨Nat.le_trans (cut_le w lo hi) h.ln, fun z => h.sp (cut_mem z), fun c hc => h.sg c (cut_mem hc)⟩
theorem wd_all {m : Nat} {ws : List Str} (h : ws.all (fun w => decide (w.length ≤ m) && (tl w).all (fun c => decide (c ≠ 32) && decide (c < 0x110000))) = true) : ∀ w ∈ ws, WdOk m w := by
  intro w hw
  have := List.all_eq_true.mp h w hw
  rw [Bool.and_eq_true, List.all_eq_true] at this
  refine ⟨of_decide_eq_true this.1, fun z => ?_, fun c hc => ?_⟩
  · have := this.2 32 z; simp at this
  · have := this.2 c hc; rw [Bool.and_eq_true] at this; exact of_decide_eq_true this.2
def menu49 : Str := "abcdefghijklmnopqrstuvwxyz0123456789->ABCXYZ.,+_\n"
theorem menu49_all : (tl menu49).all (fun c => decide (c ≠ 32) && decide (c < 0x110000)) = true ∧ (tl menu49).length = 49 ∧ menu49.length ≤ LIM := by decide +kernel
theorem sign_at {d : Int} (h0 : 0 ≤ d) (h1 : d < 49) : ∃ y, idxD (.str menu49) (.int d) = some (.dat (.str y)) ∧ WdOk 1 y := by
  obtain ⟨ha, hl, hL⟩ := menu49_all
  obtain ⟨k, rfl⟩ := Int.eq_ofNat_of_zero_le h0
  have hk : k < (tl menu49).length := by omega
  have hg : (tl menu49)[k]? = some (tl menu49)[k] := List.getElem?_eq_getElem hk
  refine ⟨⟨#[(tl menu49)[k]]⟩, ?_, ?_⟩
  · rw [idxD_str, if_pos hL]
    show (atI (tl menu49) (k : Int)).map _ = _
    rw [atI_nat hg]; rfl
  · have := List.all_eq_true.mp ha _ (List.getElem_mem hk)
    rw [Bool.and_eq_true] at this
    have t1 : ∀ z, z ∈ tl (⟨#[(tl menu49)[k]]⟩ : Str) → z = (tl menu49)[k] := fun z hz => by
      have hz : z ∈ [(tl menu49)[k]] := hz
      rwa [List.mem_singleton] at hz
    refine ⟨Nat.le_refl _, fun z => ?_, fun c hc => ?_⟩
    · have h3 := t1 _ z
      exact (of_decide_eq_true this.1) h3.symm
    · rw [t1 _ hc]; exact of_decide_eq_true this.2
def menuA : List Str := ["", "-", "rows", "tree", "key", "bundle", "only", "swap", "pad", "a", "b", "j", "k", "b>c", "b>b", "c>b"]
def menuB : List Str := ["0", "9", "10", "-0", "--", "5-", "12345", "tr\n", "A", "try", "a,b", "a\n", "undo\n"]
theorem menu_all : (menuA ++ menuB).all (fun w => decide (w.length ≤ 7) && (tl w).all (fun c => decide (c ≠ 32) && decide (c < 0x110000))) = true := by decide +kernel
theorem menu_at {d : Int} (h0 : 0 ≤ d) (h1 : d < 29) : ∃ y, atI ((menuA ++ menuB).map PyData.str) d = some (.str y) ∧ WdOk 7 y := by
  obtain ⟨k, rfl⟩ := Int.eq_ofNat_of_zero_le h0
  have hk : k < (menuA ++ menuB).length := by show k < 29; omega
  refine ⟨(menuA ++ menuB)[k], atI_nat ?_, wd_all menu_all _ (List.getElem_mem hk)⟩
  rw [List.getElem?_map, List.getElem?_eq_getElem hk]; rfl
theorem runJ_tm {np ns : Nat} {body : DS} {ds js js' es : List D} (hl : ds.length + 1 = np) (h : Rt (body (slots ns (.ref 0 :: ds.map .dat)) [js]) (.tmp es) fun io => io[0]? = some js') (hi : imAll es = true) : runJ np ns body js ds = some (.tmp es, js') := by
  obtain ⟨io, e, h⟩ := h
  unfold runJ
  rw [if_pos hl, e]
  cases io with
  | nil => cases h
  | cons x r =>
    cases h
    simp [hi]
theorem lim_of {n : Nat} (h : n ≤ 100000) : n ≤ LIM := h
theorem r_other_word {n m : Nat} {js : List D} (h : JarOk n js) (hn : n ≤ 500000) {w : Str} (hw : WdOk m w) (hm : m ≤ 1000) : ∃ y js', run__law_other_word js [.str w] = some (.dat (.str y), js') ∧ WdOk (2 * m + 8) y ∧ JarOk (n + 4) js' := by
  obtain ⟨d1, js1, e1, a1, b1, j1⟩ := r_pull h (by omega) 7 (by omega) (by omega)
  obtain ⟨d2, js2, e2, a2, b2, j2⟩ := r_pull j1 (by omega) ((w.length : Int) + 1) (by omega) (by have := hw.ln; omega)
  obtain ⟨d3, js3, e3, a3, b3, j3⟩ := r_pull j2 (by omega) 49 (by omega) (by omega)
  obtain ⟨d4, js4, e4, a4, b4, j4⟩ := r_pull j3 (by omega) 29 (by omega) (by omega)
  obtain ⟨sg, hs, hsw⟩ := sign_at a3 b3
  obtain ⟨y4, hy4, hy4w⟩ := menu_at a4 b4
  have hL : w.length ≤ LIM := lim_of (by have := hw.ln; omega)
  have es : slots 6 (.ref 0 :: ([.str w] : List D).map .dat) = [.ref 0, .dat (.str w), .un, .un, .un, .un] := rfl
  have hpre : ∀ q : DS, (dSeq (dSet 2 (dFnJ run__law_pull (dCons (dVar 0) (dCons (dC (.int 7)) (dNil))))) (dSeq (dSet 3 (dFnJ run__law_pull (dCons (dVar 0) (dCons (dOp addD (dCall lenD (dCons (dVar 1) (dNil))) (dC (.int 1))) (dNil))))) (dSeq (dSet 4 (dOp idxD (dC (.str menu49)) (dFnJ run__law_pull (dCons (dVar 0) (dCons (dC (.int 49)) (dNil)))))) q))) [.ref 0, .dat (.str w), .un, .un, .un, .un] [js] = q [.ref 0, .dat (.str w), .dat (.int d1), .dat (.int d2), .dat (.str sg), .un] [js3] := by
    intro q
    simp [e1, hL, e2, e3, -idxD_str, hs]
  have k1 := hw.cut none (some d2)
  have k2 := hw.cut (some d2) none
  have k3 := hw.cut (some (d2 + 1)) none
  have hm' := hw.ln
  have g1 := k1.ln
  have g2 := k2.ln
  have g3 := k3.ln
  have g4 := hsw.ln
  have p1 := k1.app hsw
  have l1 : (cutS w none (some d2)).length + sg.length ≤ LIM := lim_of (by omega)
  have l2 : (cutS w none (some d2) ++ sg).length + (cutS w (some d2) none).length ≤ LIM := lim_of (by rw [app_len]; omega)
  have l3 : (cutS w none (some d2) ++ sg).length + (cutS w (some (d2 + 1)) none).length ≤ LIM := lim_of (by rw [app_len]; omega)
  have l4 : (cutS w none (some d2)).length + (cutS w (some (d2 + 1)) none).length ≤ LIM := lim_of (by omega)
  have hc : d1 = 0 ∨ d1 = 1 ∨ d1 = 2 ∨ d1 = 3 ∨ (d1 ≠ 0 ∧ d1 ≠ 1 ∧ d1 ≠ 2 ∧ d1 ≠ 3) := by omega
  have hd : d__law_other_word = (dSeq (dSet 2 (dFnJ run__law_pull (dCons (dVar 0) (dCons (dC (.int 7)) (dNil))))) (dSeq (dSet 3 (dFnJ run__law_pull (dCons (dVar 0) (dCons (dOp addD (dCall lenD (dCons (dVar 1) (dNil))) (dC (.int 1))) (dNil))))) (dSeq (dSet 4 (dOp idxD (dC (.str menu49)) (dFnJ run__law_pull (dCons (dVar 0) (dCons (dC (.int 49)) (dNil)))))) _))) := rfl
  rcases hc with rfl | rfl | rfl | rfl | ⟨c0, c1, c2, c3⟩
  · refine ⟨cutS w none (some d2) ++ sg ++ cutS w (some d2) none, js3, runJ_rt rfl ?_ rfl, (p1.app k2).mono (by omega), j3.mono (by omega)⟩
    rw [es, hd, hpre]
    simp [hL, l1, l2]
  · refine ⟨cutS w none (some d2) ++ cutS w (some (d2 + 1)) none, js3, runJ_rt rfl ?_ rfl, (k1.app k3).mono (by omega), j3.mono (by omega)⟩
    rw [es, hd, hpre]
    simp [hL, l4]
  · refine ⟨cutS w none (some d2) ++ sg ++ cutS w (some (d2 + 1)) none, js3, runJ_rt rfl ?_ rfl, (p1.app k3).mono (by omega), j3.mono (by omega)⟩
    rw [es, hd, hpre]
    simp [hL, l1, l3]
  · refine ⟨sg, js3, runJ_rt rfl ?_ rfl, hsw.mono (by omega), j3.mono (by omega)⟩
    rw [es, hd, hpre]
    simp
  · refine ⟨y4, js4, runJ_rt rfl ?_ rfl, hy4w.mono (by omega), j4⟩
    rw [es, hd, hpre]
    have t16 : 16 ≤ LIM := by decide
    have t13 : 13 ≤ LIM := by decide
    have t29 : 16 + 13 ≤ LIM := by decide
    have t29' : 29 ≤ LIM := by decide
    unfold menuA menuB at hy4
    simp at hy4
    simp [c0, c1, c2, c3, t16, t13, t29, t29', e4, hy4]
end K75
set_option Elab.async false
set_option linter.all false
set_option maxRecDepth 100000
set_option maxHeartbeats 1000000
namespace K75
open PySem L2 DD TL StrLaws
def LW (n m : Nat) (L : List Str) : Prop := L.length ≤ n ∧ ∀ p ∈ L, WdOk m p
theorem cut_to (L : List Str) (a : Nat) : cutD (L.map PyData.str) none (some (a : Int)) = (L.take a).map PyData.str := by
  unfold cutD
  rw [HT.sIx_none, HT.sIx_nat, List.length_map, List.drop_zero, Nat.sub_zero, ← List.map_take]
  congr 1
  by_cases h : a ≤ L.length
  · rw [Nat.min_eq_left h]
  · rw [Nat.min_eq_right (by omega), List.take_of_length_le (Nat.le_refl _), List.take_of_length_le (by omega)]
theorem cut_mid (L : List Str) (a k : Nat) : cutD (L.map PyData.str) (some (a : Int)) (some ((a + k : Nat) : Int)) = ((L.drop a).take k).map PyData.str := by
  unfold cutD
  rw [HT.sIx_nat, HT.sIx_nat, List.length_map, ← List.map_drop, ← List.map_take]
  congr 1
  by_cases h : a ≤ L.length
  · by_cases h2 : a + k ≤ L.length
    · rw [Nat.min_eq_left h, Nat.min_eq_left h2, show a + k - a = k by omega]
    · rw [Nat.min_eq_left h, Nat.min_eq_right (by omega), List.take_of_length_le (by rw [List.length_drop]; omega), List.take_of_length_le (by rw [List.length_drop]; omega)]
  · rw [Nat.min_eq_right (by omega), Nat.min_eq_right (by omega), List.drop_eq_nil_of_le (by omega : L.length ≤ a), List.drop_eq_nil_of_le (Nat.le_refl _)]; simp
theorem add_strs {A B : List Str} (h : A.length + B.length ≤ 1000) : addD (.list (A.map .str)) (.list (B.map .str)) = some (.tmp ((A ++ B).map .str)) := by
  rw [addD_lst, if_pos (lim_of (by rw [List.length_map, List.length_map]; omega)), List.map_append]
def revK : A × IO → Option (A × IO) := fun p => (vw p.2 p.1).bind fun d => match d with
  | .list ds => some (.tmp ds.reverse, p.2)
  | _ => none
theorem dRev_ap {f : DE} {sl : List S} {io : IO} : dRev f sl io = (f sl io).bind revK := rfl
theorem revK_tmp {ds : List D} {io : IO} : revK (.tmp ds, io) = some (.tmp ds.reverse, io) := rfl
theorem LW.take {n m : Nat} {L : List Str} (h : LW n m L) (a : Nat) : LW n m (L.take a) := ⟨by rw [List.length_take]; have := h.1; omega, fun p hp => h.2 p (List.mem_of_mem_take hp)⟩
theorem LW.drop {n m : Nat} {L : List Str} (h : LW n m L) (a : Nat) : LW n m (L.drop a) := ⟨by rw [List.length_drop]; have := h.1; omega, fun p hp => h.2 p (List.mem_of_mem_drop hp)⟩
theorem joinL_nil : ∀ l : List (List Nat), joinL [] l = l.flatten
  | [] => rfl
  | [p] => by simp [joinL]
  | p :: q :: r => by
    show p ++ ([] ++ joinL [] (q :: r)) = _
    rw [joinL_nil (q :: r)]; simp
theorem join_two {m : Nat} {L : List Str} (h : ∀ p ∈ L, WdOk m p) (hl : L.length ≤ 2) : WdOk (2 * m) (Txt.join "" L) ∧ (m ≤ 1000 → joinLen "" L ≤ LIM) := by
  have e : tl (Txt.join "" L) = (L.map tl).flatten := by rw [join_eq, tl_join, em_tl, joinL_nil]
  constructor
  · refine ⟨?_, ?_, ?_⟩
    · rw [len_tl, e]
      match L, h, hl with
      | [], _, _ => simp
      | [p], h, _ => have := (h p (by simp)).ln; rw [len_tl] at this; simp; simp at this; omega
      | [p, q], h, _ =>
        have h1 := (h p (by simp)).ln
        have h2 := (h q (by simp)).ln
        rw [len_tl] at h1 h2
        simp at h1 h2 ⊢; omega
    · rw [e, List.mem_flatten]
      rintro ⟨l, hl, hc⟩
      obtain ⟨p, hp, rfl⟩ := List.mem_map.mp hl
      exact (h p hp).sp hc
    · intro c hc
      rw [e, List.mem_flatten] at hc
      obtain ⟨l, hl, hc⟩ := hc
      obtain ⟨p, hp, rfl⟩ := List.mem_map.mp hl
      exact (h p hp).sg c hc
  · intro hm
    have : (L.map (·.length)).sum ≤ L.length * m := sum_le fun x hx => (h x hx).ln
    unfold joinLen
    rw [em_len]
    refine lim_of ?_
    have h3 : L.length * m ≤ 2 * 1000 := Nat.mul_le_mul hl hm
    omega
def owQ : DS := (dSeq (dIf (dTst (dOp eqO (dVar 2) (dC (.int 0)))) (dRet (dOp addD (dSl (dVar 1) (dNo) (dPart (dVar 3))) (dSl (dVar 1) (dPart (dOp addD (dVar 3) (dC (.int 1)))) (dNo)))) (dNext)) (dSeq (dIf (dTst (dOp eqO (dVar 2) (dC (.int 1)))) (dRet (dOp addD (dOp addD (dSl (dVar 1) (dNo) (dPart (dVar 3))) (dSl (dVar 1) (dPart (dVar 3)) (dPart (dOp addD (dVar 3) (dC (.int 1)))))) (dSl (dVar 1) (dPart (dVar 3)) (dNo)))) (dNext)) (dSeq (dIf (dTst (dOp eqO (dVar 2) (dC (.int 2)))) (dRet (dOp addD (dOp addD (dSl (dVar 1) (dNo) (dPart (dVar 3))) (dLst (dCons (dFnJ run__law_other_word (dCons (dVar 0) (dCons (dC (.str "a")) (dNil)))) (dNil)))) (dSl (dVar 1) (dPart (dVar 3)) (dNo)))) (dNext)) (dSeq (dIf (dTst (dOp eqO (dVar 2) (dC (.int 3)))) (dRet (dOp addD (dOp addD (dSl (dVar 1) (dNo) (dPart (dVar 3))) (dRev (dSl (dVar 1) (dPart (dVar 3)) (dPart (dOp addD (dVar 3) (dC (.int 2))))))) (dSl (dVar 1) (dPart (dOp addD (dVar 3) (dC (.int 2)))) (dNo)))) (dNext)) (dSeq (dIf (dTst (dOp eqO (dVar 2) (dC (.int 4)))) (dRet (dOp addD (dOp addD (dSl (dVar 1) (dNo) (dPart (dVar 3))) (dLst (dCons (dMeth joinD (dC (.str "")) (dCons (dSl (dVar 1) (dPart (dVar 3)) (dPart (dOp addD (dVar 3) (dC (.int 2))))) (dNil))) (dNil)))) (dSl (dVar 1) (dPart (dOp addD (dVar 3) (dC (.int 2)))) (dNo)))) (dNext)) (dSeq (dIf (dTst (dOp eqO (dVar 2) (dC (.int 5)))) (dRet (dSl (dVar 1) (dNo) (dPart (dVar 3)))) (dNext)) (dRet (dOp addD (dOp addD (dSl (dVar 1) (dNo) (dPart (dVar 3))) (dLc (dItS (dSl (dVar 1) (dPart (dVar 3)) (dPart (dOp addD (dVar 3) (dC (.int 1)))))) (.one 4) (dYes) (dFnJ run__law_other_word (dCons (dVar 0) (dCons (dVar 4) (dNil)))) [4])) (dSl (dVar 1) (dPart (dOp addD (dVar 3) (dC (.int 1)))) (dNo))))))))))
theorem r_other_words {n k m : Nat} {js : List D} (h : JarOk n js) (hn : n ≤ 100000) {L : List Str} (hL : LW k m L) (hk : k ≤ 300) (hm : m ≤ 200) (hm1 : 1 ≤ m) : ∃ M js', run__law_other_words js [sL L] = some (.tmp (M.map .str), js') ∧ LW (k + 1) (2 * m + 8) M ∧ JarOk (n + 6) js' := by
  have hlk := hL.1
  obtain ⟨d1, js1, e1, a1, b1, j1⟩ := r_pull h (by omega) 8 (by omega) (by omega)
  obtain ⟨d2, js2, e2, a2, b2, j2⟩ := r_pull j1 (by omega) ((L.length : Int) + 1) (by omega) (by omega)
  obtain ⟨a, rfl⟩ := Int.eq_ofNat_of_zero_le a2
  have ha : a ≤ L.length := by omega
  have es : slots 5 (.ref 0 :: ([sL L] : List D).map .dat) = [.ref 0, .dat (sL L), .un, .un, .un] := rfl
  have hlen := len_sL L
  have hpre : ∀ q : DS, (dSeq (dSet 2 (dFnJ run__law_pull (dCons (dVar 0) (dCons (dC (.int 8)) (dNil))))) (dSeq (dSet 3 (dFnJ run__law_pull (dCons (dVar 0) (dCons (dOp addD (dCall lenD (dCons (dVar 1) (dNil))) (dC (.int 1))) (dNil))))) q)) [.ref 0, .dat (sL L), .un, .un, .un] [js] = q [.ref 0, .dat (sL L), .dat (.int d1), .dat (.int (a : Int)), .un] [js2] := by
    intro q
    simp [e1, hlen, nD, e2]
  have s1 : sliceD (sL L) none (some (a : Int)) = some (.tmp ((L.take a).map .str)) := by
    show some (A.tmp _) = _; rw [cut_to]
  have s2 : sliceD (sL L) (some (a : Int)) none = some (.tmp ((L.drop a).map .str)) := by
    show some (A.tmp _) = _; rw [cut_from]
  have s3 : sliceD (sL L) (some ((a : Int) + 1)) none = some (.tmp ((L.drop (a + 1)).map .str)) := by
    show some (A.tmp (cutD _ (some ((a + 1 : Nat) : Int)) none)) = _; rw [cut_from]
  have s4 : sliceD (sL L) (some ((a : Int) + 2)) none = some (.tmp ((L.drop (a + 2)).map .str)) := by
    show some (A.tmp (cutD _ (some ((a + 2 : Nat) : Int)) none)) = _; rw [cut_from]
  have s5 : sliceD (sL L) (some (a : Int)) (some ((a : Int) + 1)) = some (.tmp (((L.drop a).take 1).map .str)) := by
    show some (A.tmp (cutD _ _ (some ((a + 1 : Nat) : Int)))) = _; rw [cut_mid]
  have s6 : sliceD (sL L) (some (a : Int)) (some ((a : Int) + 2)) = some (.tmp (((L.drop a).take 2).map .str)) := by
    show some (A.tmp (cutD _ _ (some ((a + 2 : Nat) : Int)))) = _; rw [cut_mid]
  have w1 := hL.take a
  have w2 := hL.drop a
  have w3 := hL.drop (a + 1)
  have w4 := hL.drop (a + 2)
  have w5 := (hL.drop a).take 1
  have w6 := (hL.drop a).take 2
  have n1 : (L.take a).length = a := by rw [List.length_take]; omega
  have n2 : (L.drop a).length = L.length - a := List.length_drop
  have n3 : (L.drop (a + 1)).length = L.length - (a + 1) := List.length_drop
  have n4 : (L.drop (a + 2)).length = L.length - (a + 2) := List.length_drop
  have n5 : ((L.drop a).take 1).length = min 1 (L.length - a) := by rw [List.length_take, n2]
  have n6 : ((L.drop a).take 2).length = min 2 (L.length - a) := by rw [List.length_take, n2]
  generalize L.take a = A at s1 w1 n1
  generalize L.drop (a + 1) = C at s3 w3 n3
  generalize L.drop (a + 2) = E at s4 w4 n4
  generalize (L.drop a).take 1 = F at s5 w5 n5
  generalize (L.drop a).take 2 = G at s6 w6 n6
  generalize L.drop a = B at s2 w2 n2
  have hA : ∀ p ∈ A, WdOk (2 * m + 8) p := fun p hp => (w1.2 p hp).mono (by omega)
  have hB : ∀ p ∈ B, WdOk (2 * m + 8) p := fun p hp => (w2.2 p hp).mono (by omega)
  have hC : ∀ p ∈ C, WdOk (2 * m + 8) p := fun p hp => (w3.2 p hp).mono (by omega)
  have hE : ∀ p ∈ E, WdOk (2 * m + 8) p := fun p hp => (w4.2 p hp).mono (by omega)
  have hF : ∀ p ∈ F, WdOk (2 * m + 8) p := fun p hp => (w5.2 p hp).mono (by omega)
  have hG : ∀ p ∈ G, WdOk (2 * m + 8) p := fun p hp => (w6.2 p hp).mono (by omega)
  have app : ∀ {X Y : List Str}, (∀ p ∈ X, WdOk (2 * m + 8) p) → (∀ p ∈ Y, WdOk (2 * m + 8) p) → ∀ p ∈ X ++ Y, WdOk (2 * m + 8) p := fun hX hY p hp => (List.mem_append.mp hp).elim (hX p) (hY p)
  have hd : ∀ sl io, d__law_other_words sl io = (dSeq (dSet 2 (dFnJ run__law_pull (dCons (dVar 0) (dCons (dC (.int 8)) (dNil))))) (dSeq (dSet 3 (dFnJ run__law_pull (dCons (dVar 0) (dCons (dOp addD (dCall lenD (dCons (dVar 1) (dNil))) (dC (.int 1))) (dNil))))) owQ)) sl io := fun _ _ => rfl
  have t1 := lim1
  have hc : d1 = 0 ∨ d1 = 1 ∨ d1 = 2 ∨ d1 = 3 ∨ d1 = 4 ∨ d1 = 5 ∨ (d1 ≠ 0 ∧ d1 ≠ 1 ∧ d1 ≠ 2 ∧ d1 ≠ 3 ∧ d1 ≠ 4 ∧ d1 ≠ 5) := by omega
  rcases hc with rfl | rfl | rfl | rfl | rfl | rfl | ⟨c0, c1, c2, c3, c4, c5⟩
  · have q1 := add_strs (A := A) (B := C) (by omega)
    refine ⟨A ++ C, js2, runJ_tm rfl ?_ imAll_strs, ⟨by rw [List.length_append]; omega, app hA hC⟩, j2.mono (by omega)⟩
    rw [es, hd, hpre]
    unfold owQ
    simp [-sliceD_lst, -addD_lst, s1, s3, q1, -List.map_append]
  · have q1 := add_strs (A := A) (B := F) (by omega)
    have q2 := add_strs (A := A ++ F) (B := B) (by rw [List.length_append]; omega)
    refine ⟨A ++ F ++ B, js2, runJ_tm rfl ?_ imAll_strs, ⟨by rw [List.length_append, List.length_append]; omega, app (app hA hF) hB⟩, j2.mono (by omega)⟩
    rw [es, hd, hpre]
    unfold owQ
    simp [-sliceD_lst, -addD_lst, s1, s2, s5, q1, q2, -List.map_append, -List.append_assoc]
  · obtain ⟨y, js3, e3, hy, j3⟩ := r_other_word j2 (by omega) (w := "a") (m := 1) (wd_all (ws := ["a"]) (by decide +kernel) _ (by simp)) (by omega)
    have q1 := add_strs (A := A) (B := [y]) (by simp; omega)
    have q2 := add_strs (A := A ++ [y]) (B := B) (by simp; omega)
    simp only [List.map_cons, List.map_nil] at q1
    refine ⟨A ++ [y] ++ B, js3, runJ_tm rfl ?_ imAll_strs, ⟨by rw [List.length_append, List.length_append, List.length_singleton]; omega, app (app hA (by intro p hp; rw [List.mem_singleton] at hp; subst hp; exact hy.mono (by omega))) hB⟩, j3.mono (by omega)⟩
    rw [es, hd, hpre]
    unfold owQ
    simp [-sliceD_lst, -addD_lst, s1, s2, e3, q1, q2, t1, -List.map_append, -List.append_assoc]
  · have q1 := add_strs (A := A) (B := G.reverse) (by rw [List.length_reverse]; omega)
    have q2 := add_strs (A := A ++ G.reverse) (B := E) (by rw [List.length_append, List.length_reverse]; omega)
    refine ⟨A ++ G.reverse ++ E, js2, runJ_tm rfl ?_ imAll_strs, ⟨by rw [List.length_append, List.length_append, List.length_reverse]; omega, app (app hA (by intro p hp; exact hG p (List.mem_reverse.mp hp))) hE⟩, j2.mono (by omega)⟩
    rw [es, hd, hpre]
    unfold owQ
    rw [List.map_reverse] at q1
    simp [-sliceD_lst, -addD_lst, s1, s4, s6, dRev_ap, revK_tmp, q1, q2, -List.map_append, -List.append_assoc]
  · obtain ⟨u1, u2⟩ := join_two (L := G) (m := m) w6.2 (by omega)
    have u2 := u2 (by omega)
    have q1 := add_strs (A := A) (B := [Txt.join "" G]) (by simp; omega)
    have q2 := add_strs (A := A ++ [Txt.join "" G]) (B := E) (by simp; omega)
    simp only [List.map_cons, List.map_nil] at q1
    refine ⟨A ++ [Txt.join "" G] ++ E, js2, runJ_tm rfl ?_ imAll_strs, ⟨by rw [List.length_append, List.length_append, List.length_singleton]; omega, app (app hA (by intro p hp; rw [List.mem_singleton] at hp; subst hp; exact u1.mono (by omega))) hE⟩, j2.mono (by omega)⟩
    rw [es, hd, hpre]
    unfold owQ
    simp [-sliceD_lst, -addD_lst, s1, s4, s6, u2, q1, q2, t1, -List.map_append, -List.append_assoc]
  · refine ⟨A, js2, runJ_tm rfl ?_ imAll_strs, ⟨by omega, hA⟩, j2.mono (by omega)⟩
    rw [es, hd, hpre]
    unfold owQ
    simp [-sliceD_lst, s1]
  · have : ∃ (F' : List Str) (js3 : List D), lcGo none (.one 4) dYes (dFnJ run__law_other_word (dCons (dVar 0) (dCons (dVar 4) (dNil)))) [.ref 0, .dat (sL L), .dat (.int d1), .dat (.int (a : Int)), .un] (F.map .str) 0 [js2] = some (F'.map .str, [js3]) ∧ F'.length = F.length ∧ (∀ p ∈ F', WdOk (2 * m + 8) p) ∧ JarOk (n + 6) js3 := by
      have h5 : F.length ≤ 1 := by omega
      have t0 : 0 < LIM := by decide
      match F, h5, w5 with
      | [], _, _ => exact ⟨[], js2, by unfold lcGo; rfl, rfl, by simp, j2.mono (by omega)⟩
      | [f], _, w5 =>
        obtain ⟨y, js3, e3, hy, j3⟩ := r_other_word j2 (by omega) (w5.2 f (by simp)) (by omega)
        refine ⟨[y], js3, ?_, rfl, by simpa using hy, j3.mono (by omega)⟩
        simp only [List.map_cons, List.map_nil]
        unfold lcGo
        simp [t0, e3]
        unfold lcGo
        simp
    obtain ⟨F', js3, e3, n7, hF', j3⟩ := this
    have q1 := add_strs (A := A) (B := F') (by omega)
    have q2 := add_strs (A := A ++ F') (B := C) (by rw [List.length_append]; omega)
    refine ⟨A ++ F' ++ C, js3, runJ_tm rfl ?_ imAll_strs, ⟨by rw [List.length_append, List.length_append]; omega, app (app hA hF') hC⟩, j3⟩
    rw [es, hd, hpre]
    unfold owQ
    simp [-sliceD_lst, -addD_lst, s1, s3, s5, c0, c1, c2, c3, c4, c5, e3, q1, q2, -List.map_append, -List.append_assoc]
end K75
set_option Elab.async false
set_option linter.all false
set_option maxRecDepth 100000
set_option maxHeartbeats 1000000
namespace K75
open PySem L2 DD TL StrLaws
theorem join_small2 {n m : Nat} {L : List Str} (h : LW n m L) (hb : n * (m + 1) ≤ 90000) : joinLen " " L ≤ LIM ∧ (Txt.join " " L).length ≤ 90000 := by
  have h1 : (L.map (·.length)).sum ≤ L.length * m := sum_le fun x hx => (h.2 x hx).ln
  have h2 : L.length * (m + 1) ≤ n * (m + 1) := Nat.mul_le_mul_right _ h.1
  rw [Nat.mul_add, Nat.mul_one] at h2
  constructor
  · unfold joinLen
    rw [sp_len]
    exact lim_of (by omega)
  · rw [join_eq]
    have := join_length_le " " L
    rw [sp_len] at this
    omega
/-- a text of words -/
structure TOk (n m : Nat) (t : Str) (L : List Str) : Prop where
  ne : L ≠ []
  tx : t = Txt.join " " L
  lw : LW n m L
theorem TOk.split {n m : Nat} {t : Str} {L : List Str} (h : TOk n m t L) : Txt.split t " " = L := by
  rw [h.tx]
  exact split_join sp_tl sp_k h.ne fun p hp => (h.lw.2 p hp).sp
theorem TOk.mono {n m a b : Nat} {t : Str} {L : List Str} (h : TOk n m t L) (h1 : n ≤ a) (h2 : m ≤ b) : TOk a b t L := ⟨h.ne, h.tx, Nat.le_trans h.lw.1 h1, fun p hp => (h.lw.2 p hp).mono h2⟩
theorem TOk.of {n m : Nat} {L : List Str} (h : LW n m L) (h1 : 1 ≤ n) : ∃ M, TOk n m (Txt.join " " L) M := by
  cases L with
  | nil => exact ⟨[""], by simp, by decide +kernel, by simpa using h1, by
      intro p hp
      rw [List.mem_singleton] at hp
      subst hp
      exact ⟨by rw [em_len]; omega, by rw [em_tl]; simp, by rw [em_tl]; simp⟩⟩
  | cons x r => exact ⟨x :: r, by simp, rfl, h⟩
def stB : DS := (dSet 4 (dMeth joinD (dC (.str " ")) (dCons (dFnJ run__law_other_words (dCons (dVar 0) (dCons (dMeth splitD (dVar 4) (dCons (dC (.str " ")) (dNil))) (dNil)))) (dNil))))
theorem st_turn {j n m : Nat} {js : List D} (h : JarOk j js) (hj : j ≤ 100000) {a b s3 : S} {t : Str} {L : List Str} (ht : TOk n m t L) (hn : n ≤ 300) (hm : m ≤ 200) (hm1 : 1 ≤ m) (hn1 : (n + 1) * (2 * m + 9) ≤ 90000) :
    ∃ t' L' js', stB [.ref 0, a, b, s3, .dat (.str t)] [js] = some (.nx [.ref 0, a, b, s3, .dat (.str t')] [js']) ∧ TOk (n + 1) (2 * m + 8) t' L' ∧ JarOk (j + 6) js' := by
  obtain ⟨M, js', e, hM, j1⟩ := r_other_words h hj ht.lw hn hm hm1
  obtain ⟨M', hM'⟩ := TOk.of hM (by omega)
  have hl := (join_small2 ht.lw (by
    have : n * (m + 1) ≤ (n + 1) * (2 * m + 9) := Nat.mul_le_mul (by omega) (by omega)
    omega)).2
  rw [← ht.tx] at hl
  have hsp := spl_ok ht.split (lim_of (by omega))
  have hj2 := (join_small2 hM hn1).1
  have e : run__law_other_words js [.list (L.map .str)] = _ := e
  refine ⟨_, M', js', ?_, hM', j1⟩
  unfold stB
  simp [-splitD_str, hsp, e, hj2]
def bd : Nat → Nat → Nat
  | 0, m => m
  | c + 1, m => bd c (2 * m + 8)
theorem st_loop {a b : S} : ∀ (items : List D) (j n m : Nat) (js : List D) (s3 : S) (t : Str) (L : List Str), JarOk j js → j + 6 * items.length ≤ 100000 → TOk n m t L → 1 ≤ m → n + items.length ≤ 250 → bd items.length m ≤ 130 →
    ∃ s3' t' L' js', forGo none (.one 3) stB items [.ref 0, a, b, s3, .dat (.str t)] [js] = some (.nx [.ref 0, a, b, s3', .dat (.str t')] [js']) ∧ TOk (n + items.length) (bd items.length m) t' L' ∧ JarOk (j + 6 * items.length) js'
  | [], j, n, m, js, s3, t, L, h, hj, ht, hm1, hn, hb => ⟨s3, t, L, js, rfl, ht, h⟩
  | d :: items, j, n, m, js, s3, t, L, h, hj, ht, hm1, hn, hb => by
    rw [List.length_cons] at hj hn hb ⊢
    have hmb : ∀ c x, x ≤ bd c x := by
      intro c
      induction c with
      | zero => intro x; exact Nat.le_refl _
      | succ c ih => intro x; have := ih (2 * x + 8); unfold bd; omega
    have h2 : 2 * m + 8 ≤ 130 := by
      have := hmb items.length (2 * m + 8)
      unfold bd at hb
      omega
    have h3 : (n + 1) * (2 * m + 9) ≤ 251 * 140 := Nat.mul_le_mul (by omega) (by omega)
    obtain ⟨t1, L1, js1, e1, ht1, j1⟩ := st_turn (a := a) (b := b) (s3 := .dat d) h (by omega) ht (by omega) (by omega) hm1 (by omega)
    obtain ⟨s3', t', L', js', e2, ht2, j2⟩ := st_loop (a := a) (b := b) items (j + 6) (n + 1) (2 * m + 8) js1 (.dat d) t1 L1 j1 (by omega) ht1 (by omega) (by omega) hb
    refine ⟨s3', t', L', js', ?_, ht2.mono (by omega) (Nat.le_refl _), j2.mono (by omega)⟩
    rw [forGo_cons1]
    show (stB [.ref 0, a, b, .dat d, .dat (.str t)] [js]).bind _ = _
    rw [e1]
    exact e2
theorem any_words {sl : List S} (h0 : sl[0]? = some (.ref 0)) (h3 : 3 < sl.length) : ∀ (items : List D) (j c : Nat) (js : List D), JarOk j js → j + 4 * items.length ≤ 100000 → c + items.length ≤ 1000 →
    ∃ (L : List Str) (js' : List D), lcGo none (.one 3) dYes (dFnJ run__law_other_word (dCons (dVar 0) (dCons (dC (.str "b")) (dNil)))) sl items c [js] = some (L.map .str, [js']) ∧ LW items.length 10 L ∧ L.length = items.length ∧ JarOk (j + 4 * items.length) js'
  | [], j, c, js, h, hj, hc => ⟨[], js, by unfold lcGo; rfl, ⟨Nat.le_refl _, by simp⟩, rfl, h⟩
  | d :: items, j, c, js, h, hj, hc => by
    rw [List.length_cons] at hj hc
    obtain ⟨y, js1, e1, hy, j1⟩ := r_other_word h (by omega) (w := "b") (m := 1) (wd_all (ws := ["b"]) (by decide +kernel) _ (by simp)) (by omega)
    obtain ⟨L, js', e2, hL, hl, j2⟩ := any_words h0 h3 items (j + 4) (c + 1) js1 j1 (by omega) (by omega)
    refine ⟨y :: L, js', ?_, ⟨by simp [hl], fun p hp => ?_⟩, by simp [hl], j2.mono (by rw [List.length_cons]; omega)⟩
    · have hcl : c < LIM := by unfold LIM; omega
      have h0' : (sl.set 3 (.dat d))[0]? = some (.ref 0) := by rw [List.getElem?_set_ne (by omega)]; exact h0
      unfold lcGo
      simp [hcl, h0', e1, e2]
    · rcases List.mem_cons.mp hp with rfl | hp
      · exact hy
      · exact hL.2 p hp
theorem wd_of {ws : List Str} {m : Nat} (h : ∀ w ∈ ws, w.length ≤ m ∧ 32 ∉ tl w ∧ ∀ c ∈ tl w, c < 1114112) : ∀ w ∈ ws, WdOk m w := fun w hw => ⟨(h w hw).1, (h w hw).2.1, (h w hw).2.2⟩
theorem ltr_wd {w : Nat} (h : w < 10) : WdOk 8 (ltr w) := ⟨by rw [ltr_len]; omega, by rw [ltr_tl, List.mem_singleton]; omega, fun c hc => by rw [ltr_tl, List.mem_singleton] at hc; omega⟩
theorem dash_wd : WdOk 8 "-" := wd_all (ws := ["-"]) (by decide +kernel) _ (by simp)
theorem lets_T {ws : List Nat} (hw : ∀ w ∈ ws, w < 10) (hl : ws.length ≤ 40) : ∃ L, TOk 41 8 (lets ws) L := by
  refine ⟨Lw ws, Lw_ne ws, lets_Lw ws, ?_⟩
  unfold Lw
  by_cases h : ws = []
  · rw [if_pos h]
    refine ⟨by simp, fun p hp => ?_⟩
    rw [List.mem_singleton] at hp; subst hp; exact dash_wd
  · rw [if_neg h]
    refine ⟨by rw [List.length_map]; omega, fun p hp => ?_⟩
    obtain ⟨w, hm, rfl⟩ := List.mem_map.mp hp
    exact ltr_wd (hw w hm)
theorem fixed_wd : ∀ w ∈ ([("tree" : Str), "rows", "key", "bundle", "only", "lift", "swap", "head", "pad"] : List Str), WdOk 8 w := wd_all (by decide +kernel)
theorem tree_T {ps : List Nat} (hp : TreeOk ps) : ∃ L, TOk 41 8 (treeText ps) L := by
  refine ⟨"tree" :: ps.map ltr, by simp, rfl, by have := hp.1; simp; omega, fun p hm => ?_⟩
  rcases List.mem_cons.mp hm with rfl | hm
  · exact fixed_wd _ (by simp)
  · obtain ⟨w, hw, rfl⟩ := List.mem_map.mp hm
    exact ltr_wd (by have := hp.lt hw; omega)
theorem row_wd {k : Nat} {r : Row} (h : RowOk k r) (hk : k ≤ 4) : WdOk 8 (rowText r) := by
  refine ⟨by rw [rowText_len]; have := h.1; omega, ?_, ?_⟩
  · rw [rowText_tl, List.mem_map]
    rintro ⟨x, _, hx⟩
    exact code_ne x hx
  · intro c hc
    rw [rowText_tl, List.mem_map] at hc
    obtain ⟨x, hx, rfl⟩ := hc
    cases x with
    | none => show 45 < _; omega
    | some n => have := h.2 _ hx n rfl; show 48 + n < _; omega
theorem cat_T {ps : List Nat} {m : Str} {rows : List Row} {k : Nat} (h : KatOk ps m rows k) : ∃ L, TOk 41 8 (catText ps m rows) L := by
  have hp9 := h.tr.1
  have hln := h.ln
  refine ⟨parts ps m rows, by simp [parts], catText_parts ps m rows, by simp [parts]; omega, fun p hm => ?_⟩
  unfold parts at hm
  simp only [List.mem_cons, List.mem_append, List.mem_map] at hm
  rcases hm with rfl | rfl | ⟨w, hw, rfl⟩ | rfl | ⟨r, hr, rfl⟩
  · rcases h.md with rfl | rfl <;> exact fixed_wd _ (by simp)
  · exact fixed_wd _ (by simp)
  · exact ltr_wd (by have := h.tr.lt hw; omega)
  · exact fixed_wd _ (by simp)
  · exact row_wd (h.ok r hr) h.k4
theorem pT_wd {q : Nat × Nat} (h : q.1 < 10 ∧ q.2 < 10) : WdOk 8 (pT q) := ⟨by rw [pT_len]; omega, by rw [pT_tl]; simp; omega, fun c hc => by rw [pT_tl] at hc; simp at hc; omega⟩
end K75
set_option Elab.async false
set_option linter.all false
set_option maxRecDepth 100000
set_option maxHeartbeats 1000000
namespace K75
open PySem L2 DD TL StrLaws
theorem gate_T {ps : List Nat} (ht : TreeOk ps) {g : Gate} (h : GOk ps g) : ∃ L, TOk 42 8 (gText g) L := by
  have hp9 := ht.1
  cases g with
  | g1 w ws =>
    have hw := word1 h
    obtain ⟨L, hL⟩ := lets_T (ws := ws) (fun w hw => by have := h.1.1 w hw; omega) h.2.1
    have hq : ∀ p ∈ Lw ws, WdOk 8 p := by
      intro p hp
      unfold Lw at hp
      split at hp
      · rw [List.mem_singleton] at hp; subst hp; exact dash_wd
      · obtain ⟨v, hm, rfl⟩ := List.mem_map.mp hp
        exact ltr_wd (by have := h.1.1 v hm; omega)
    have hl : (Lw ws).length ≤ 41 := by
      have := h.2.1
      unfold Lw
      split
      · simp
      · rw [List.length_map]; omega
    refine ⟨w :: Lw ws, by simp, rfl, by rw [List.length_cons]; omega, fun p hp => ?_⟩
    rcases List.mem_cons.mp hp with rfl | hp
    · refine fixed_wd _ ?_
      simp only [List.mem_cons, List.not_mem_nil, or_false] at hw ⊢
      rcases hw with h | h | h | h <;> simp [h]
    · exact hq p hp
  | g2 qs =>
    have hq : ∀ p ∈ Lp qs, WdOk 8 p := by
      intro p hp
      unfold Lp at hp
      split at hp
      · rw [List.mem_singleton] at hp; subst hp; exact dash_wd
      · obtain ⟨v, hm, rfl⟩ := List.mem_map.mp hp
        have := h.1 v hm
        exact pT_wd ⟨by omega, by omega⟩
    have hl : (Lp qs).length ≤ 41 := by
      have := h.2.1
      unfold Lp
      split
      · simp
      · rw [List.length_map]; omega
    refine ⟨"swap" :: Lp qs, by simp, rfl, by rw [List.length_cons]; omega, fun p hp => ?_⟩
    rcases List.mem_cons.mp hp with rfl | hp
    · exact fixed_wd _ (by simp)
    · exact hq p hp
def inc (k : Nat) : Nat := if k = 2 then 330 else 215
def sxR : DS := (dSeq (dFor (dItR1 (dCons (dFnJ run__law_pull (dCons (dVar 0) (dCons (dC (.int 4)) (dNil)))) (dNil))) (.one 3) stB) (dRet (dVar 4)))
theorem sx_rest {j : Nat} {js : List D} (h : JarOk j js) (hj : j ≤ 50000) {a b : S} {t : Str} {L : List Str} (ht : TOk 42 8 t L) : ∃ t' L' js', Rt (sxR [.ref 0, a, b, .un, .dat (.str t)] [js]) (.dat (.str t')) (fun io => io[0]? = some js') ∧ TOk 50 130 t' L' ∧ JarOk (j + 20) js' := by
  obtain ⟨d, js1, e1, a1, b1, j1⟩ := r_pull h (by omega) 4 (by omega) (by omega)
  obtain ⟨c, rfl⟩ := Int.eq_ofNat_of_zero_le a1
  have hc : c ≤ 3 := by omega
  have hlen : (rngItems 0 c).length = c := by unfold rngItems; simp
  have hbd : bd c 8 ≤ 130 := by
    have : c = 0 ∨ c = 1 ∨ c = 2 ∨ c = 3 := by omega
    rcases this with rfl | rfl | rfl | rfl <;> decide
  obtain ⟨s3', t', L', js', e2, ht2, j2⟩ := st_loop (a := a) (b := b) (rngItems 0 c) (j + 1) 42 8 js1 .un t L j1 (by rw [hlen]; omega) ht (by omega) (by rw [hlen]; omega) (by rw [hlen]; exact hbd)
  rw [hlen] at ht2 j2
  refine ⟨t', L', js', ⟨[js'], ?_, rfl⟩, ht2.mono (by omega) hbd, j2.mono (by omega)⟩
  have hr : rng1K ([.dat (.int (c : Int))], [js1]) = some ((rngItems 0 c, none), [js1]) := rng1K_ap rfl (by omega)
  unfold sxR
  simp [e1, hr, e2]
def sxA : DS := dIf (dTst (dOp eqO (dFnJ run__law_pull (dCons (dVar 0) (dCons (dC (.int 6)) (dNil)))) (dC (.int 0)))) (dRet (dMeth joinD (dC (.str " ")) (dCons (dLc (dItR1 (dCons (dOp addD (dC (.int 1)) (dFnJ run__law_pull (dCons (dVar 0) (dCons (dC (.int 5)) (dNil))))) (dNil))) (.one 3) (dYes) (dFnJ run__law_other_word (dCons (dVar 0) (dCons (dC (.str "b")) (dNil)))) [3]) (dNil)))) (dNext)
def sxM : DS := dIf (dTst (dOp eqO (dVar 1) (dC (.int 0)))) (dSet 4 (dFn run__law_letters (dCons (dFnJ run__law_some_asks (dCons (dVar 0) (dCons (dVar 2) (dCons (dC (.int 9)) (dNil))))) (dNil)))) (dIf (dTst (dOp eqO (dVar 1) (dC (.int 1)))) (dSet 4 (dFn run__law_world_words (dCons (dVar 2) (dNil)))) (dIf (dTst (dOp eqO (dVar 1) (dC (.int 2)))) (dSet 4 (dFn run__law_book_words (dCons (dFnJ run__law_some_book (dCons (dVar 0) (dCons (dVar 2) (dCons (dFnJ run__law_some_mode (dCons (dVar 0) (dNil))) (dCons (dOp addD (dC (.int 1)) (dFnJ run__law_pull (dCons (dVar 0) (dCons (dC (.int 4)) (dNil))))) (dNil)))))) (dNil)))) (dSet 4 (dFn run__law_door_words (dCons (dFnJ run__law_some_door (dCons (dVar 0) (dCons (dVar 2) (dNil)))) (dNil))))))
theorem sx_def : d__law_some_text = dSeq sxA (dSeq sxM sxR) := rfl
theorem sxA_no {js js1 : List D} {d1 : Int} {a b c e : S} (e1 : run__law_pull js [.int 6] = some (.dat (.int d1), js1)) (h0 : d1 ≠ 0) : sxA [.ref 0, a, b, c, e] [js] = some (.nx [.ref 0, a, b, c, e] [js1]) := by
  unfold sxA
  simp [e1, h0]
theorem sxA_yes {n : Nat} {js js1 : List D} {a b : S} (e1 : run__law_pull js [.int 6] = some (.dat (.int 0), js1)) (j1 : JarOk n js1) (hn : n ≤ 5000) : ∃ t L js', sxA [.ref 0, a, b, .un, .un] [js] = some (.rt (.dat (.str t)) [js']) ∧ TOk 50 130 t L ∧ JarOk (n + 30) js' := by
  obtain ⟨d2, js2, e2, a2, b2, j2⟩ := r_pull j1 (by omega) 5 (by omega) (by omega)
  obtain ⟨c, rfl⟩ := Int.eq_ofNat_of_zero_le a2
  have hlen : (rngItems 0 (1 + c)).length = 1 + c := by unfold rngItems; simp
  obtain ⟨L, js3, e3, hL, hl, j3⟩ := any_words (sl := [.ref 0, a, b, .un, .un]) rfl (by simp) (rngItems 0 (1 + c)) (n + 1) 0 js2 j2 (by rw [hlen]; omega) (by rw [hlen]; omega)
  rw [hlen] at hL j3
  obtain ⟨M, hM⟩ := TOk.of hL (by omega)
  have hb : (1 + c) * (10 + 1) ≤ 5 * 11 := Nat.mul_le_mul (by omega) (by omega)
  have hjn := (join_small2 hL (by omega)).1
  refine ⟨_, M, js3, ?_, hM.mono (by omega) (by omega), j3.mono (by omega)⟩
  have hr : rng1K ([.dat (.int (1 + (c : Int)))], [js2]) = some ((rngItems 0 (1 + c), none), [js2]) := rng1K_ap (by omega) (by omega)
  unfold sxA
  simp [e1, e2, hr, e3, hjn]
theorem sxM_0 {n : Nat} {js : List D} (h : JarOk n js) (hn : n ≤ 900) {ps : List Nat} (hp : TreeOk ps) : ∃ t L js', sxM [.ref 0, .dat (.int 0), .dat (dT ps), .un, .un] [js] = some (.nx [.ref 0, .dat (.int 0), .dat (dT ps), .un, .dat (.str t)] [js']) ∧ TOk 42 8 t L ∧ JarOk (n + 170) js' := by
  obtain ⟨ws, js2, e2, hw, hl, j2⟩ := r_some_asksR h (by omega) ps hp 9 (by omega) (by omega)
  have hw10 : ∀ w ∈ ws, w < 10 := fun w hm => hw.lt hp hm
  obtain ⟨L, hL⟩ := lets_T hw10 hl
  have e3 := r_letters ws hw10 hw.2
  refine ⟨_, L, js2, ?_, hL.mono (by omega) (Nat.le_refl _), j2⟩
  unfold sxM
  simp [e2, e3]
theorem sxM_1 {n : Nat} {js : List D} (h : JarOk n js) {ps : List Nat} (hp : TreeOk ps) : ∃ t L js', sxM [.ref 0, .dat (.int 1), .dat (dT ps), .un, .un] [js] = some (.nx [.ref 0, .dat (.int 1), .dat (dT ps), .un, .dat (.str t)] [js']) ∧ TOk 42 8 t L ∧ JarOk (n + 170) js' := by
  obtain ⟨L, hL⟩ := tree_T hp
  have e3 := r_world_words ps hp
  refine ⟨_, L, js, ?_, hL.mono (by omega) (Nat.le_refl _), h.mono (by omega)⟩
  unfold sxM
  simp [e3]
theorem sxM_2 {n : Nat} {js : List D} (h : JarOk n js) (hn : n ≤ 900) {ps : List Nat} (hp : TreeOk ps) : ∃ t L js', sxM [.ref 0, .dat (.int 2), .dat (dT ps), .un, .un] [js] = some (.nx [.ref 0, .dat (.int 2), .dat (dT ps), .un, .dat (.str t)] [js']) ∧ TOk 42 8 t L ∧ JarOk (n + 302) js' := by
  obtain ⟨m, js2, e2, hm, j2⟩ := r_some_mode h (by omega)
  obtain ⟨d3, js3, e3, a3, b3, j3⟩ := r_pull j2 (by omega) 4 (by omega) (by omega)
  obtain ⟨c, rfl⟩ := Int.eq_ofNat_of_zero_le a3
  obtain ⟨rows, js4, e4, hK, j4⟩ := r_some_book j3 (by omega) ps hp m hm (1 + c) (by omega) (by omega)
  have hc1 : (((1 + c : Nat)) : Int) = 1 + (c : Int) := by omega
  rw [hc1] at e4
  obtain ⟨L, hL⟩ := cat_T hK
  have e5 := r_book_words hK
  refine ⟨_, L, js4, ?_, hL.mono (by omega) (Nat.le_refl _), j4.mono (by omega)⟩
  unfold sxM
  simp -implicitDefEqProofs [e2, e3, e4, e5]
theorem sxM_3 {n : Nat} {js : List D} (h : JarOk n js) (hn : n ≤ 900) {ps : List Nat} (hp : TreeOk ps) : ∃ t L js', sxM [.ref 0, .dat (.int 3), .dat (dT ps), .un, .un] [js] = some (.nx [.ref 0, .dat (.int 3), .dat (dT ps), .un, .dat (.str t)] [js']) ∧ TOk 42 8 t L ∧ JarOk (n + 190) js' := by
  obtain ⟨g, js2, e2, hg, j2⟩ := r_some_door h (by omega) ps hp
  obtain ⟨L, hL⟩ := gate_T hp hg
  have e3 := r_door_words ps hp g hg
  refine ⟨_, L, js2, ?_, hL, j2⟩
  unfold sxM
  simp [e2, e3]
theorem sxM_k {n : Nat} {js : List D} (h : JarOk n js) (hn : n ≤ 900) {ps : List Nat} (hp : TreeOk ps) (k : Nat) (hk : k < 4) : ∃ t L js', sxM [.ref 0, .dat (nD k), .dat (dT ps), .un, .un] [js] = some (.nx [.ref 0, .dat (nD k), .dat (dT ps), .un, .dat (.str t)] [js']) ∧ TOk 42 8 t L ∧ JarOk (n + (inc k - 25)) js' := by
  match k, hk with
  | 0, _ => obtain ⟨t, L, js', e, a, b⟩ := sxM_0 h hn hp; exact ⟨t, L, js', e, a, b.mono (by simp [inc])⟩
  | 1, _ => obtain ⟨t, L, js', e, a, b⟩ := sxM_1 h hp; exact ⟨t, L, js', e, a, b.mono (by simp [inc])⟩
  | 2, _ => obtain ⟨t, L, js', e, a, b⟩ := sxM_2 h hn hp; exact ⟨t, L, js', e, a, b.mono (by simp [inc])⟩
  | 3, _ => obtain ⟨t, L, js', e, a, b⟩ := sxM_3 h hn hp; exact ⟨t, L, js', e, a, b.mono (by simp [inc])⟩
theorem r_some_text {n : Nat} {js : List D} (h : JarOk n js) (hn : n ≤ 850) (ps : List Nat) (hp : TreeOk ps) (k : Nat) (hk : k < 4) : ∃ t L js', run__law_some_text js [nD k, dT ps] = some (.dat (.str t), js') ∧ TOk 50 130 t L ∧ JarOk (n + inc k) js' := by
  suffices hs : ∃ t L js', Rt (d__law_some_text [.ref 0, .dat (nD k), .dat (dT ps), .un, .un] [js]) (.dat (.str t)) (fun io => io[0]? = some js') ∧ TOk 50 130 t L ∧ JarOk (n + inc k) js' by
    obtain ⟨t, L, js', h1, h2, h3⟩ := hs
    exact ⟨t, L, js', runJ_rt rfl h1 rfl, h2, h3⟩
  have hinc : 215 ≤ inc k := by unfold inc; split <;> omega
  rw [sx_def]
  obtain ⟨d1, js1, e1, a1, b1, j1⟩ := r_pull h (by omega) 6 (by omega) (by omega)
  by_cases h0 : d1 = 0
  · subst h0
    obtain ⟨t, L, js', e2, ht, j2⟩ := sxA_yes (a := .dat (nD k)) (b := .dat (dT ps)) e1 j1 (by omega)
    exact ⟨t, L, js', Rt_seq1 ⟨_, e2, rfl⟩, ht, j2.mono (by omega)⟩
  · rw [seq_nx (sxA_no e1 h0)]
    obtain ⟨t, L, js2, e2, ht, j2⟩ := sxM_k j1 (by omega) hp k hk
    rw [seq_nx e2]
    have hi : inc k ≤ 330 := by unfold inc; split <;> omega
    obtain ⟨t', L', js', hr, ht2, j3⟩ := sx_rest j2 (by omega) (a := .dat (nD k)) (b := .dat (dT ps)) ht
    exact ⟨t', L', js', hr, ht2, j3.mono (by omega)⟩
end K75
set_option Elab.async false
set_option linter.all false
set_option maxRecDepth 100000
set_option maxHeartbeats 1000000
namespace K75
open PySem L2 DD TL StrLaws
theorem TOk.lok {n m : Nat} {t : Str} {L : List Str} (h : TOk n m t L) (hn : n ≤ 2500) (hm : m ≤ 1000) : LOk L := by
  refine ⟨fun x hx => ⟨?_, (h.lw.2 x hx).sgo⟩, by have := h.lw.1; omega⟩
  have := (h.lw.2 x hx).ln
  unfold LIM; omega
theorem dT_wt {ps : List Nat} (h : TreeOk ps) : leaf (dT ps) = true ∧ PyData.depth (dT ps) ≤ 1 ∧ PyData.weight (dT ps) ≤ 230 := by
  obtain ⟨a, b, c⟩ := (nD_each (l := ps) fun w hw => by have := h.lt hw; omega).all
  rw [List.length_map] at c
  have := h.1
  unfold dT
  refine ⟨?_, ?_, ?_⟩
  · simp only [leaf, leafs, a]; rfl
  · simp only [PyData.depth, PyData.depthAll]; omega
  · simp only [PyData.weight, PyData.weightAll]; omega
theorem dK_wt {ps : List Nat} {m : Str} {rows : List Row} {k : Nat} (h : KatOk ps m rows k) : leaf (dK ps m rows) = true ∧ PyData.depth (dK ps m rows) ≤ 5 ∧ PyData.weight (dK ps m rows) ≤ 2000 := by
  obtain ⟨a, b, c⟩ := dT_wt h.tr
  obtain ⟨a2, b2, c2⟩ := (dR_each h.k4 h.ok).all
  rw [List.length_map] at c2
  have := h.ln
  have := h.tr.1
  obtain ⟨h1, h2, h3⟩ := md h.md
  have hm : leaf (.str m) = true := by simpa only [leaf] using h3
  have hls : m.length = m.cps.size := rfl
  unfold dK
  refine ⟨?_, ?_, ?_⟩
  · simp only [leaf, leafs, a, a2, Bool.and_true, Bool.true_and] at hm ⊢; exact hm
  · simp only [PyData.depth, PyData.depthAll]; omega
  · simp only [PyData.weight, PyData.weightAll]; omega
theorem rdr_small {ps : List Nat} (ht : TreeOk ps) {k : Nat} {L : List Str} (hl : L.length ≤ 90) (hw : ∀ x ∈ L, SgOk x) : Small (pr (rdr k ps L)) := by
  have hp9 := ht.1
  have er : ∀ (o : Rd D), (∀ j, o = .error j → j < 100000) → (∀ d, o = .ok d → Small (.tuple [d, .none])) → Small (pr o) := by
    intro o h1 h2
    cases o with
    | ok d => exact h2 d rfl
    | error j => exact none_nD (h1 j rfl)
  have w3 : ∀ {d : D} {n w : Nat}, leaf d = true ∧ PyData.depth d ≤ n ∧ PyData.weight d ≤ w → n ≤ 60 → w ≤ 8000 → Small (.tuple [d, .none]) := fun h hn hw => pair_small ⟨h.1, by omega, by omega⟩ (by omega) (by omega)
  unfold rdr
  split
  · cases hs : spots (ps.length + 1) false 0 L with
    | error j => exact er _ (fun i hi => by cases hi; have := spots_err hs; omega) (fun d hd => by cases hd)
    | ok g =>
      obtain ⟨h1, h2⟩ := spots_ok hs
      exact er _ (fun i hi => by cases hi) (fun d hd => by cases hd; exact w3 (dW_wt (fun w hw => by have := h2 w hw; omega) (by omega)) (by omega) (by omega))
  · cases hs : wrld 0 L with
    | error j => exact er _ (fun i hi => by cases hi; have := wrld_err hs; omega) (fun d hd => by cases hd)
    | ok g => exact er _ (fun i hi => by cases hi) (fun d hd => by cases hd; exact w3 (dT_wt (wrld_ok hs).1) (by omega) (by omega))
  · refine er _ (fun j hj => ?_) (fun d hd => ?_)
    · unfold bookR at hj
      split at hj
      · cases hj; omega
      · rename_i m r
        rw [List.length_cons] at hl
        split at hj
        · cases hs : wrld 1 r with
          | error i => rw [hs] at hj; cases hj; have := wrld_err hs; omega
          | ok qs =>
            rw [hs] at hj
            have hq := (wrld_ok hs).1.1
            simp only [] at hj
            split at hj
            · cases hj; omega
            · rename_i t _
              cases hr : goR (qs.length + 1) t (qs.length + 3) [] with
              | error i => rw [hr] at hj; cases hj; have := goR_err hr; omega
              | ok g => rw [hr] at hj; cases hj
        · cases hj; omega
    · unfold bookR at hd
      split at hd
      · cases hd
      · rename_i m r
        split at hd
        · rename_i hm
          cases hs : wrld 1 r with
          | error i => rw [hs] at hd; cases hd
          | ok qs =>
            rw [hs] at hd
            have hq := (wrld_ok hs).1
            simp only [] at hd
            split at hd
            · cases hd
            · rename_i t _
              cases hr : goR (qs.length + 1) t (qs.length + 3) [] with
              | error i => rw [hr] at hd; cases hd
              | ok g =>
                rw [hr] at hd; cases hd
                obtain ⟨k', k1, k2, k3, k4⟩ := goR_ok (k := 1) hr (by simp) (by simp) (by simp)
                exact w3 (dK_wt (k := k') ⟨hq, hm, by simpa using k4, k1, k2, k3⟩) (by omega) (by omega)
        · cases hd
  · refine er _ (fun j hj => ?_) (fun d hd => ?_)
    · unfold doorR at hj
      split at hj
      · cases hj; omega
      · rename_i w r
        rw [List.length_cons] at hl
        split at hj
        · cases hs : pairsR (ps.length + 1) 1 r with
          | error i => rw [hs] at hj; cases hj; have := pairs_err hs; omega
          | ok g => rw [hs] at hj; cases hj
        · split at hj
          · cases hs : spots (ps.length + 1) (decide (w ∈ ([("only" : Str), "lift"] : List Str))) 1 r with
            | error i => rw [hs] at hj; cases hj; have := spots_err hs; omega
            | ok g => rw [hs] at hj; cases hj
          · cases hj; omega
    · unfold doorR at hd
      split at hd
      · cases hd
      · rename_i w r
        rw [List.length_cons] at hl
        have hsw : SgOk w := hw w List.mem_cons_self
        split at hd
        · rename_i hs0
          cases hs : pairsR (ps.length + 1) 1 r with
          | error i => rw [hs] at hd; cases hd
          | ok g =>
            rw [hs] at hd; cases hd
            obtain ⟨h1, h2⟩ := pairsR_ok hs
            exact tag_small hsw (by rw [hs0]; decide +kernel) (dP_wt (fun q hq => by have := h2 q hq; omega) (by omega))
        · split at hd
          · rename_i hm
            cases hs : spots (ps.length + 1) (decide (w ∈ ([("only" : Str), "lift"] : List Str))) 1 r with
            | error i => rw [hs] at hd; cases hd
            | ok g =>
              rw [hs] at hd; cases hd
              obtain ⟨h1, h2⟩ := spots_ok hs
              obtain ⟨a, b, c⟩ := dW_wt (ws := g) (fun w hw => by have := h2 w hw; omega) (by omega)
              refine tag_small hsw ?_ ⟨a, by omega, by omega⟩
              have : ∀ v ∈ ([("only" : Str), "lift", "head", "pad"] : List Str), v.length ≤ 10 := by decide +kernel
              exact this w hm
          · cases hd
def B5 : DS := (dSeq (dSet 6 (dFnJ run__law_some_text (dCons (dVar 2) (dCons (dVar 5) (dCons (dVar 3) (dNil)))))) (dIf (dNotT (dTru (dFn run__law_same (dCons (dFn run__law_placed (dCons (dVar 5) (dCons (dVar 4) (dCons (dVar 6) (dNil))))) (dCons (dFn run__law_text_read (dCons (dVar 5) (dCons (dVar 4) (dCons (dVar 6) (dNil))))) (dNil)))))) (dRet (dC (.bool false))) (dNext)))
def BE : DS := (dIf (dOrT (dTst (dOp neO (dFn run__law_placed (dCons (dC (.int 0)) (dCons (dVar 4) (dCons (dC (.str "")) (dNil))))) (dTup (dCons (dC .none) (dCons (dC (.int 0)) (dNil)))))) (dTst (dOp neO (dFn run__law_placed (dCons (dC (.int 3)) (dCons (dVar 4) (dCons (dC (.str "head")) (dNil))))) (dTup (dCons (dC .none) (dCons (dC (.int 1)) (dNil))))))) (dRet (dC (.bool false))) (dNext))
def BB : DS := (dSeq (dOwn 2 (dFn run__law_fill (dCons (dVar 1) (dNil)))) (dSeq (dSet 3 (dFnJ run__law_some_world (dCons (dVar 2) (dCons (dC (.int 10)) (dNil))))) (dSeq (dSet 4 (dVar 3)) (dSeq (dIf (dTst (dOp eqO (dFnJ run__law_pull (dCons (dVar 2) (dCons (dC (.int 3)) (dNil)))) (dC (.int 0)))) (dSet 4 (dFnJ run__law_some_world (dCons (dVar 2) (dCons (dC (.int 10)) (dNil))))) (dNext)) (dSeq (dFor (dItR1 (dCons (dC (.int 4)) (dNil))) (.one 5) B5) BE)))))
def Bn : Nat → Nat
  | 0 => 41
  | 1 => 256
  | 2 => 471
  | 3 => 801
  | _ => 1016
theorem Bn_le (i : Nat) (h : i < 4) : Bn i ≤ 801 ∧ Bn i + inc i ≤ Bn (i + 1) := by
  have : i = 0 ∨ i = 1 ∨ i = 2 ∨ i = 3 := by omega
  rcases this with rfl | rfl | rfl | rfl <;> decide
theorem five_turn {ns : List Int} {s1 s5 s6 s7 : S} {ps gs : List Nat} (hp : TreeOk ps) (hg : TreeOk gs) {io : IO} {js : List D} {i : Nat} (hi : i < 4) (hj : JarOk (Bn i) js) :
    ∃ s6' js', B5 [.scr ns, s1, .ref io.length, .dat (dT ps), .dat (dT gs), .dat (nD i), s6, s7] (io ++ [js]) = some (.nx [.scr ns, s1, .ref io.length, .dat (dT ps), .dat (dT gs), .dat (nD i), s6', s7] (io ++ [js'])) ∧ JarOk (Bn (i + 1)) js' := by
  obtain ⟨hb1, hb2⟩ := Bn_le i hi
  obtain ⟨t, L, js', e1, hT, j1⟩ := r_some_text hj (by omega) ps hp i hi
  have hlok := hT.lok (by omega) (by omega)
  have hlt := (join_small2 hT.lw (by decide)).2
  rw [← hT.tx] at hlt
  have e2 := r_placed hg hi (lim_of (by omega)) hT.split hT.ne hlok (fun _ => by have := hT.lw.1; omega)
  have e3 := r_text_read hg hi (lim_of (by omega)) hT.split hT.ne hlok
  have e4 := r_same (rdr_small hg (k := i) (L := L) (by have := hT.lw.1; omega) (fun x hx => (hT.lw.2 x hx).sgo))
  refine ⟨.dat (.str t), js', ?_, j1.mono (by omega)⟩
  unfold B5
  simp -implicitDefEqProofs [e1, e2, e3, e4]
theorem five_loop {ns : List Int} {s1 s7 : S} {ps gs : List Nat} (hp : TreeOk ps) (hg : TreeOk gs) {io : IO} : ∀ (m i : Nat) (s5 s6 : S) (js : List D), i + m = 4 → JarOk (Bn i) js →
    ∃ s5' s6' js', forGo none (.one 5) B5 (rngItems i m) [.scr ns, s1, .ref io.length, .dat (dT ps), .dat (dT gs), s5, s6, s7] (io ++ [js]) = some (.nx [.scr ns, s1, .ref io.length, .dat (dT ps), .dat (dT gs), s5', s6', s7] (io ++ [js']))
  | 0, i, s5, s6, js, hi, hj => ⟨s5, s6, js, rfl⟩
  | m + 1, i, s5, s6, js, hi, hj => by
    obtain ⟨s6', js', e, j1⟩ := five_turn (ns := ns) (s1 := s1) (s5 := s5) (s6 := s6) (s7 := s7) (io := io) hp hg (i := i) (by omega) hj
    obtain ⟨a, b, c, e2⟩ := five_loop (ns := ns) (s1 := s1) (s7 := s7) hp hg (io := io) m (i + 1) (.dat (nD i)) s6' js' (by omega) j1
    refine ⟨a, b, c, ?_⟩
    rw [rng_succ, forGo_cons1]
    show (B5 [.scr ns, s1, .ref io.length, .dat (dT ps), .dat (dT gs), .dat (nD i), s6, s7] (io ++ [js])).bind _ = _
    rw [e, bind_some', fgK_nx, i_succ]
    exact e2
theorem split_one {w : Str} (h : 32 ∉ tl w) : Txt.split w " " = [w] := by
  have := split_join (parts := [w]) sp_tl sp_k (by simp) (by intro p hp; rw [List.mem_singleton] at hp; subst hp; exact h)
  rwa [show Txt.join " " [w] = w by rw [join_eq]; exact ext_tl (by rw [tl_join]; rfl)] at this
theorem one_lok {w : Str} (h : WdOk 8 w) : LOk [w] := by
  refine ⟨fun x hx => ?_, by simp⟩
  rw [List.mem_singleton] at hx
  subst hx
  exact ⟨by have := h.ln; unfold LIM; omega, h.sgo⟩
theorem end_check {ns : List Int} {s1 s3 s5 s6 s7 : S} {gs : List Nat} (hg : TreeOk gs) {k : Nat} {io : IO} : BE [.scr ns, s1, .ref k, s3, .dat (dT gs), s5, s6, s7] io = some (.nx [.scr ns, s1, .ref k, s3, .dat (dT gs), s5, s6, s7] io) := by
  have w0 : WdOk 8 "" := wd_all (ws := [""]) (by decide +kernel) _ (by simp)
  have w1 : WdOk 8 "head" := fixed_wd _ (by simp)
  have e0 := r_placed hg (k := 0) (by omega) (lim_of (by have := w0.ln; omega)) (split_one w0.sp) (by simp) (one_lok w0) (fun z => by simp at z)
  have e1 := r_placed hg (k := 3) (by omega) (lim_of (by have := w1.ln; omega)) (split_one w1.sp) (by simp) (one_lok w1) (fun z => by simp at z)
  have r0 : rdr 0 gs [""] = .error 0 := by
    have h1 : spots (gs.length + 1) false 0 [""] = .error 0 := by
      rw [spots_cons, if_neg (by decide +kernel)]
      unfold goL
      have : lt? "" (gs.length + 1) = none := lt_none (by decide +kernel)
      rw [this]
    unfold rdr
    simp only [h1]; rfl
  have r1 : rdr 3 gs ["head"] = .error 1 := by
    unfold rdr
    rw [doorR_cons, if_neg (by decide +kernel), if_pos (by simp)]
    rfl
  rw [r0] at e0
  rw [r1] at e1
  have e0 : run__law_placed [.int 0, dT gs, .str ""] = some (.dat (.tuple [.none, .int 0])) := e0
  have e1 : run__law_placed [.int 3, dT gs, .str "head"] = some (.dat (.tuple [.none, .int 1])) := e1
  have q0 : eqD (.tuple [.none, .int 0]) (.tuple [.none, .int 0]) = some true := by decide +kernel
  have q1 : eqD (.tuple [.none, .int 1]) (.tuple [.none, .int 1]) = some true := by decide +kernel
  have t2 := two_lim
  unfold BE
  simp -implicitDefEqProofs [e0, e1, q0, q1, t2]
theorem law_turn (ns : List Int) (cell : Int) (s2 s3 s4 s5 s6 s7 : S) (io : IO) : Nx (BB [.scr ns, .dat (.int cell), s2, s3, s4, s5, s6, s7] io) fun sl _ => ∃ s1 s2 s3 s4 s5 s6 s7, sl = [.scr ns, s1, s2, s3, s4, s5, s6, s7] := by
  obtain ⟨js, e0, hj0⟩ := r_fill cell
  obtain ⟨a, b, c, hjar, _⟩ := id hj0
  have hja : imAll js = true := by rw [hjar]; rfl
  obtain ⟨ps, js1, e1, hp, j1⟩ := r_some_world hj0 (by omega)
  obtain ⟨d, js2, e2, a2, b2, j2⟩ := r_pull j1 (by omega) 3 (by omega) (by omega)
  unfold BB
  refine Nx_seq (P0 := fun sl io' => sl = [.scr ns, .dat (.int cell), .ref io.length, s3, s4, s5, s6, s7] ∧ io' = io ++ [js]) ?_ ?_
  · simp -implicitDefEqProofs [e0, hja]
  rintro sl io' ⟨rfl, rfl⟩
  refine Nx_seq (P0 := fun sl io' => sl = [.scr ns, .dat (.int cell), .ref io.length, .dat (dT ps), s4, s5, s6, s7] ∧ io' = io ++ [js1]) ?_ ?_
  · simp -implicitDefEqProofs [e1]
  rintro sl io' ⟨rfl, rfl⟩
  refine Nx_seq (P0 := fun sl io' => sl = [.scr ns, .dat (.int cell), .ref io.length, .dat (dT ps), .dat (dT ps), s5, s6, s7] ∧ io' = io ++ [js1]) ?_ ?_
  · simp -implicitDefEqProofs
  rintro sl io' ⟨rfl, rfl⟩
  refine Nx_seq (P0 := fun sl io' => ∃ gs js3, TreeOk gs ∧ JarOk 41 js3 ∧ sl = [.scr ns, .dat (.int cell), .ref io.length, .dat (dT ps), .dat (dT gs), s5, s6, s7] ∧ io' = io ++ [js3]) ?_ ?_
  · by_cases h0 : d = 0
    · subst h0
      obtain ⟨gs, js3, e3, hg, j3⟩ := r_some_world j2 (by omega)
      refine ⟨_, _, ?_, gs, js3, hg, j3.mono (by omega), rfl, rfl⟩
      simp -implicitDefEqProofs [e2, e3]
    · refine ⟨_, _, ?_, ps, js2, hp, j2.mono (by omega), rfl, rfl⟩
      simp -implicitDefEqProofs [e2, h0]
  rintro sl io' ⟨gs, js3, hg, j3, rfl, rfl⟩
  obtain ⟨s5', s6', js', e5⟩ := five_loop (ns := ns) (s1 := .dat (.int cell)) (s7 := s7) hp hg (io := io) 4 0 s5 s6 js3 rfl j3
  have hr := fun io => rng1K_ap (io := io) (j := (4 : Int)) (n := 4) rfl (by omega)
  refine Nx_seq (P0 := fun sl io' => sl = [.scr ns, .dat (.int cell), .ref io.length, .dat (dT ps), .dat (dT gs), s5', s6', s7] ∧ io' = io ++ [js']) ?_ ?_
  · refine ⟨_, _, ?_, rfl, rfl⟩
    rw [dFor_ap, dItR1_ap]
    have ea : dCons (dC (.int 4)) dNil [.scr ns, .dat (.int cell), .ref io.length, .dat (dT ps), .dat (dT gs), s5, s6, s7] (io ++ [js3]) = some ([.dat (.int 4)], io ++ [js3]) := rfl
    rw [ea, bind_some', hr, bind_some', forK_ap]
    exact e5
  rintro sl io' ⟨rfl, rfl⟩
  rw [end_check hg]
  exact ⟨_, _, rfl, _, _, _, _, _, _, _, rfl⟩
/-! the long text -/
theorem foldl_app (a : Array Nat) : ∀ (m : Nat) (acc : Array Nat), ((List.replicate m a).foldl (· ++ ·) acc).toList = acc.toList ++ (List.replicate m a.toList).flatten
  | 0, acc => by simp
  | m + 1, acc => by
    rw [List.replicate_succ, List.foldl_cons, foldl_app a m, Array.toList_append, List.replicate_succ, List.flatten_cons, List.append_assoc]
theorem long_join (z : List Nat) : ∀ m : Nat, joinL [32] (List.replicate m [97] ++ [z]) = (List.replicate m [97, 32]).flatten ++ z
  | 0 => by simp [joinL]
  | m + 1 => by
    rw [List.replicate_succ, List.replicate_succ, List.flatten_cons, List.append_assoc, ← long_join z m]
    cases m with
    | zero => rfl
    | succ m => rfl
def longL (m : Nat) : List Str := List.replicate m ("a" : Str) ++ [("k" : Str)]
def longX (m : Nat) : Str := ⟨(List.replicate m ("a " : Str).cps).foldl (· ++ ·) #[]⟩
theorem a_tl : tl "a" = [97] ∧ tl "k" = [107] ∧ tl "a " = [97, 32] := by decide +kernel
theorem long_tx (m : Nat) : longX m ++ "k" = Txt.join " " (longL m) := by
  obtain ⟨h1, h2, h3⟩ := a_tl
  rw [join_eq]
  refine ext_tl ?_
  rw [tl_append, tl_join, sp_tl]
  unfold longL longX
  rw [List.map_append, List.map_replicate, h1, List.map_cons, List.map_nil, h2, long_join]
  congr 1
  show ((List.replicate m ("a " : Str).cps).foldl (· ++ ·) #[]).toList = _
  rw [foldl_app]
  show [] ++ (List.replicate m (tl "a ")).flatten = _
  rw [h3]; rfl
theorem long_T (m : Nat) : TOk (m + 1) 1 (longX m ++ "k") (longL m) := by
  refine ⟨by unfold longL; simp, long_tx m, by unfold longL; simp, fun p hp => ?_⟩
  have h : ∀ w ∈ ([("a" : Str), "k"] : List Str), WdOk 1 w := wd_all (by decide +kernel)
  unfold longL at hp
  rcases List.mem_append.mp hp with hp | hp
  · exact h p (by rw [List.mem_replicate] at hp; simp [hp.2])
  · exact h p (by rw [List.mem_singleton] at hp; simp [hp])
theorem long_go : ∀ (m i : Nat) (f : List Nat), goL 1 false (List.replicate m ("a" : Str) ++ [("k" : Str)]) i f = .error (i + m)
  | 0, i, f => by
    have : lt? "k" 1 = none := by decide +kernel
    show goL 1 false ["k"] i f = _
    unfold goL
    rw [this]; rfl
  | m + 1, i, f => by
    have : lt? "a" 1 = some 0 := by decide +kernel
    rw [List.replicate_succ, List.cons_append]
    unfold goL
    rw [this]
    simp only [late, Bool.false_and, Bool.false_eq_true, if_false]
    rw [long_go m (i + 1), show i + 1 + m = i + (m + 1) by omega]
theorem long_read (m : Nat) (h0 : 0 < m) : rdr 0 [] (longL m) = .error m := by
  have h1 : spots 1 false 0 (longL m) = .error m := by
    obtain ⟨k, rfl⟩ : ∃ k, m = k + 1 := ⟨m - 1, by omega⟩
    have : longL (k + 1) = ("a" : Str) :: (List.replicate k ("a" : Str) ++ [("k" : Str)]) := by
      unfold longL
      rw [List.replicate_succ]; rfl
    rw [this, spots_cons, if_neg (by decide +kernel)]
    have := long_go (k + 1) 0 []
    rw [List.replicate_succ, List.cons_append, Nat.zero_add] at this
    exact this
  unfold rdr
  simp only [List.length_nil, Nat.zero_add, h1]; rfl
def lawE : DS := (dSeq (dSet 7 (dScrLen 0)) (dSeq (dIf (dTst (dOp neO (dFn run__law_placed (dCons (dC (.int 0)) (dCons (dTup (dCons (dC .none) (dNil))) (dCons (dOp addD (dOp mulSD (dC (.str "a ")) (dC (.int 1999))) (dC (.str "k"))) (dNil))))) (dTup (dCons (dC .none) (dCons (dC (.int 1999)) (dNil)))))) (dRet (dC (.bool false))) (dNext)) (dRet (dAndV (dOp eqO (dFld "place" okc_place (dMk "InvalidWords" "place" (dCons (dVar 7) (dNil)))) (dVar 7)) (dOp eqO (dFld "place" okc_place (dMk "InvalidWords" "place" (dCons (dVar 7) (dNil)))) (dVar 7))))))
theorem dMk_ap {n f : Str} {g : DA} {sl : List S} {io : IO} : dMk n f g sl io = (g sl io).bind (mkK n f) := rfl
theorem mkK_ap {n f : Str} {v : D} {io : IO} : mkK n f ([.dat v], io) = if im v = true then some (.dat (exData ⟨n, some (f, v)⟩), io) else none := rfl
theorem end_true (ns : List Int) (h : ns.length ≤ 63) (s1 s2 s3 s4 s5 s6 s7 : S) (io : IO) : Rt (lawE [.scr ns, s1, s2, s3, s4, s5, s6, s7] io) (.dat (.bool true)) fun _ => True := by
  have e1 : mulSD (.str "a ") (.int 1999) = some (.dat (.str (longX 1999))) := by
    unfold mulSD longX
    exact if_pos (by decide +kernel)
  have hT := long_T 1999
  have hjl := (join_small2 hT.lw (by decide)).2
  rw [← hT.tx] at hjl
  have hl2 : (longX 1999).length + ("k" : Str).length ≤ LIM := by rw [← app_len]; exact lim_of (by omega)
  have e2 := r_placed (ps := []) ⟨by simp, by intro i p h; cases h⟩ (k := 0) (by omega) (lim_of (by omega)) hT.split hT.ne (hT.lok (by omega) (by omega)) (fun z => by simp at z)
  rw [long_read 1999 (by omega)] at e2
  have e2 : run__law_placed [.int 0, .tuple [.none], .str (longX 1999 ++ "k")] = some (.dat (.tuple [.none, .int 1999])) := e2
  have q : eqD (.tuple [.none, .int 1999]) (.tuple [.none, .int 1999]) = some true := by decide +kernel
  generalize longX 1999 = X at *
  have t1 := lim1
  have t2 := two_lim
  have f1 : ∀ (v : D) (io : IO), fldK "place" okc_place (.dat (exData ⟨"InvalidWords", some ("place", v)⟩), io) = some (.dat v, io) := fun v io => by
    rw [exData_1, fldK_ap, if_pos ⟨rfl, ok_place⟩]
  have es : dScrLen 0 [.scr ns, s1, s2, s3, s4, s5, s6, s7] io = some (.dat (.int ns.length), io) := rfl
  have e3 : addD (.str X) (.str "k") = some (.dat (.str (X ++ "k"))) := by rw [addD_str, if_pos hl2]
  unfold lawE
  simp -implicitDefEqProofs [es, e1, -addD_str, e3, e2, q, t1, t2, dFld_ap, dMk_ap, mkK_ap, f1]
theorem law_true (ns : List Int) (h : ns.length ≤ 63) : run_law ns = some true := by
  refine runLaw_rt ?_
  have hd : d_law = dSeq (dFor (dItS (dOp addD (dLst (dCons (dOp addD (dOp powD (dC (.int 109)) (dC (.int 30))) (dC (.int 1))) (dNil))) (dScr 0 (dNo) (dPart (dC (.int 16)))))) (.one 1) BB) lawE := rfl
  rw [hd]
  have e1 : powD (.int 109) (.int 30) = some (.dat (.int (109 ^ 30))) := by rw [powD_int, if_pos (by decide)]; rfl
  have e2 : cutD (ns.map .int) none (some (16 : Int)) = (ns.take 16).map .int := cut_ints ns 16
  have e3 : addD (.list [.int (109 ^ 30 + 1)]) (.list ((ns.take 16).map .int)) = some (.tmp (((109 ^ 30 + 1) :: ns.take 16).map PyData.int)) := by
    rw [addD_lst, if_pos (by rw [List.length_map, List.length_take]; show 1 + _ ≤ _; unfold LIM; omega)]; rfl
  generalize hz : (109 : Int) ^ 30 = z at *
  have hit : dItS (dOp addD (dLst (dCons (dOp addD (dOp powD (dC (.int 109)) (dC (.int 30))) (dC (.int 1))) (dNil))) (dScr 0 (dNo) (dPart (dC (.int 16))))) (slots 8 [.scr ns]) [] = some ((((z + 1) :: ns.take 16).map PyData.int, none), []) := by
    simp [slots, -powD_int, e1, show 1 ≤ LIM by decide, e2, -addD_lst, e3, -List.map_take, -List.map_cons]
  refine Rt_seq (Nx_for (items := ((z + 1) :: ns.take 16).map PyData.int) (c := none) (io1 := []) (fun _ sl _ => ∃ s1 s2 s3 s4 s5 s6 s7, sl = [.scr ns, s1, s2, s3, s4, s5, s6, s7]) hit ⟨_, _, _, _, _, _, _, rfl⟩ ?_ fun _ _ _ => rfl) ?_
  · rintro i d sl io hi ⟨s1, s2, s3, s4, s5, s6, s7, rfl⟩
    rw [List.getElem?_map, Option.map_eq_some_iff] at hi
    obtain ⟨cell, _, rfl⟩ := hi
    exact ⟨rfl, law_turn ns cell s2 s3 s4 s5 s6 s7 io⟩
  rintro sl io ⟨s1, s2, s3, s4, s5, s6, s7, rfl⟩
  exact end_true ns h s1 s2 s3 s4 s5 s6 s7 io
end K75

set_option Elab.async false
set_option linter.all false
set_option maxRecDepth 100000
set_option maxHeartbeats 4000000
namespace K75
open PySem PySem.Spec PyProof.Rows L2 DD
def topS (i : Nat) : Stmt := PySem.Challenge.pw_wishedtongues_k75_words_that_cannot_stan.main.body.getD i (.Pass ⟨0, 0, 0, 0⟩)
abbrev s_is_integer : Stmt := topS 22
abbrev s_is_tree : Stmt := topS 23
abbrev s_need_tree : Stmt := topS 24
abbrev s_is_way : Stmt := topS 26
abbrev s_locale_read : Stmt := topS 30
abbrev s_row_read : Stmt := topS 31
abbrev s_none_written : Stmt := topS 32
abbrev s_locales_read : Stmt := topS 33
abbrev s_pairs_read : Stmt := topS 34
abbrev s_parents_read : Stmt := topS 35
abbrev s_rows_read : Stmt := topS 36
abbrev s_read_wishes : Stmt := topS 37
abbrev s_read_tree : Stmt := topS 38
abbrev s_read_catalog : Stmt := topS 39
abbrev s_read_door : Stmt := topS 40
abbrev s__law_pull : Stmt := topS 42
abbrev s__law_other_word : Stmt := topS 43
abbrev s__law_letters : Stmt := topS 44
abbrev s__law_up : Stmt := topS 45
abbrev s__law_some_asks : Stmt := topS 46
abbrev s__law_world_words : Stmt := topS 47
abbrev s__law_word_of : Stmt := topS 48
abbrev s__law_book_words : Stmt := topS 49
abbrev s__law_some_book : Stmt := topS 50
abbrev s__law_some_mode : Stmt := topS 51
abbrev s__law_door_words : Stmt := topS 52
abbrev s__law_some_door : Stmt := topS 53
abbrev s__law_other_words : Stmt := topS 54
abbrev s__law_letter : Stmt := topS 55
abbrev s__law_spots_read : Stmt := topS 56
abbrev s__law_world_read : Stmt := topS 57
abbrev s__law_row_read : Stmt := topS 58
abbrev s__law_book_read : Stmt := topS 59
abbrev s__law_pairs_read : Stmt := topS 60
abbrev s__law_gate_read : Stmt := topS 61
abbrev s__law_fill : Stmt := topS 62
abbrev s__law_some_world : Stmt := topS 63
abbrev s__law_same : Stmt := topS 64
abbrev s__law_stands_under : Stmt := topS 65
abbrev s__law_placed : Stmt := topS 66
abbrev s__law_some_text : Stmt := topS 67
abbrev s__law_text_read : Stmt := topS 68
abbrev s_law : Stmt := topS 69
/-- where all stands -/
structure Tx (K : PySem.W.Frag) (mg : Str → Option Value) where
  f_is_integer : Addr
  fd_is_integer : FuncData
  F_is_integer : Fun K "is_integer" "is_integer" s_is_integer f_is_integer fd_is_integer
  g_is_integer : mg "is_integer" = some (.ref f_is_integer)
  b_is_integer : Binds K fd_is_integer ["value"] []
  f_is_tree : Addr
  fd_is_tree : FuncData
  F_is_tree : Fun K "is_tree" "is_tree" s_is_tree f_is_tree fd_is_tree
  g_is_tree : mg "is_tree" = some (.ref f_is_tree)
  b_is_tree : Binds K fd_is_tree ["value"] []
  f_need_tree : Addr
  fd_need_tree : FuncData
  F_need_tree : Fun K "need_tree" "need_tree" s_need_tree f_need_tree fd_need_tree
  g_need_tree : mg "need_tree" = some (.ref f_need_tree)
  b_need_tree : Binds K fd_need_tree ["tree"] []
  f_is_way : Addr
  fd_is_way : FuncData
  F_is_way : Fun K "is_way" "is_way" s_is_way f_is_way fd_is_way
  g_is_way : mg "is_way" = some (.ref f_is_way)
  b_is_way : Binds K fd_is_way ["value"] []
  f_locale_read : Addr
  fd_locale_read : FuncData
  F_locale_read : Fun K "locale_read" "locale_read" s_locale_read f_locale_read fd_locale_read
  g_locale_read : mg "locale_read" = some (.ref f_locale_read)
  b_locale_read : Binds K fd_locale_read ["word", "count"] []
  f_row_read : Addr
  fd_row_read : FuncData
  F_row_read : Fun K "row_read" "row_read" s_row_read f_row_read fd_row_read
  g_row_read : mg "row_read" = some (.ref f_row_read)
  b_row_read : Binds K fd_row_read ["word"] []
  f_none_written : Addr
  fd_none_written : FuncData
  F_none_written : Fun K "none_written" "none_written" s_none_written f_none_written fd_none_written
  g_none_written : mg "none_written" = some (.ref f_none_written)
  b_none_written : Binds K fd_none_written ["parts", "first"] []
  f_locales_read : Addr
  fd_locales_read : FuncData
  F_locales_read : Fun K "locales_read" "locales_read" s_locales_read f_locales_read fd_locales_read
  g_locales_read : mg "locales_read" = some (.ref f_locales_read)
  b_locales_read : Binds K fd_locales_read ["parts", "first", "count", "rising"] []
  f_pairs_read : Addr
  fd_pairs_read : FuncData
  F_pairs_read : Fun K "pairs_read" "pairs_read" s_pairs_read f_pairs_read fd_pairs_read
  g_pairs_read : mg "pairs_read" = some (.ref f_pairs_read)
  b_pairs_read : Binds K fd_pairs_read ["parts", "first", "count"] []
  f_parents_read : Addr
  fd_parents_read : FuncData
  F_parents_read : Fun K "parents_read" "parents_read" s_parents_read f_parents_read fd_parents_read
  g_parents_read : mg "parents_read" = some (.ref f_parents_read)
  b_parents_read : Binds K fd_parents_read ["parts", "first", "last"] []
  f_rows_read : Addr
  fd_rows_read : FuncData
  F_rows_read : Fun K "rows_read" "rows_read" s_rows_read f_rows_read fd_rows_read
  g_rows_read : mg "rows_read" = some (.ref f_rows_read)
  b_rows_read : Binds K fd_rows_read ["parts", "first", "count"] []
  f_read_wishes : Addr
  fd_read_wishes : FuncData
  F_read_wishes : Fun K "read_wishes" "read_wishes" s_read_wishes f_read_wishes fd_read_wishes
  g_read_wishes : mg "read_wishes" = some (.ref f_read_wishes)
  b_read_wishes : Binds K fd_read_wishes ["tree", "words"] []
  f_read_tree : Addr
  fd_read_tree : FuncData
  F_read_tree : Fun K "read_tree" "read_tree" s_read_tree f_read_tree fd_read_tree
  g_read_tree : mg "read_tree" = some (.ref f_read_tree)
  b_read_tree : Binds K fd_read_tree ["words"] []
  f_read_catalog : Addr
  fd_read_catalog : FuncData
  F_read_catalog : Fun K "read_catalog" "read_catalog" s_read_catalog f_read_catalog fd_read_catalog
  g_read_catalog : mg "read_catalog" = some (.ref f_read_catalog)
  b_read_catalog : Binds K fd_read_catalog ["words"] []
  f_read_door : Addr
  fd_read_door : FuncData
  F_read_door : Fun K "read_door" "read_door" s_read_door f_read_door fd_read_door
  g_read_door : mg "read_door" = some (.ref f_read_door)
  b_read_door : Binds K fd_read_door ["tree", "words"] []
  f__law_pull : Addr
  fd__law_pull : FuncData
  F__law_pull : Fun K "_law_pull" "_law_pull" s__law_pull f__law_pull fd__law_pull
  g__law_pull : mg "_law_pull" = some (.ref f__law_pull)
  b__law_pull : Binds K fd__law_pull ["jar", "size"] []
  f__law_other_word : Addr
  fd__law_other_word : FuncData
  F__law_other_word : Fun K "_law_other_word" "_law_other_word" s__law_other_word f__law_other_word fd__law_other_word
  g__law_other_word : mg "_law_other_word" = some (.ref f__law_other_word)
  b__law_other_word : Binds K fd__law_other_word ["jar", "word"] []
  f__law_letters : Addr
  fd__law_letters : FuncData
  F__law_letters : Fun K "_law_letters" "_law_letters" s__law_letters f__law_letters fd__law_letters
  g__law_letters : mg "_law_letters" = some (.ref f__law_letters)
  b__law_letters : Binds K fd__law_letters ["spots"] []
  f__law_up : Addr
  fd__law_up : FuncData
  F__law_up : Fun K "_law_up" "_law_up" s__law_up f__law_up fd__law_up
  g__law_up : mg "_law_up" = some (.ref f__law_up)
  b__law_up : Binds K fd__law_up ["world", "spot"] []
  f__law_some_asks : Addr
  fd__law_some_asks : FuncData
  F__law_some_asks : Fun K "_law_some_asks" "_law_some_asks" s__law_some_asks f__law_some_asks fd__law_some_asks
  g__law_some_asks : mg "_law_some_asks" = some (.ref f__law_some_asks)
  b__law_some_asks : Binds K fd__law_some_asks ["jar", "world", "reach"] []
  f__law_world_words : Addr
  fd__law_world_words : FuncData
  F__law_world_words : Fun K "_law_world_words" "_law_world_words" s__law_world_words f__law_world_words fd__law_world_words
  g__law_world_words : mg "_law_world_words" = some (.ref f__law_world_words)
  b__law_world_words : Binds K fd__law_world_words ["world"] []
  f__law_word_of : Addr
  fd__law_word_of : FuncData
  F__law_word_of : Fun K "_law_word_of" "_law_word_of" s__law_word_of f__law_word_of fd__law_word_of
  g__law_word_of : mg "_law_word_of" = some (.ref f__law_word_of)
  b__law_word_of : Binds K fd__law_word_of ["row"] []
  f__law_book_words : Addr
  fd__law_book_words : FuncData
  F__law_book_words : Fun K "_law_book_words" "_law_book_words" s__law_book_words f__law_book_words fd__law_book_words
  g__law_book_words : mg "_law_book_words" = some (.ref f__law_book_words)
  b__law_book_words : Binds K fd__law_book_words ["book"] []
  f__law_some_book : Addr
  fd__law_some_book : FuncData
  F__law_some_book : Fun K "_law_some_book" "_law_some_book" s__law_some_book f__law_some_book fd__law_some_book
  g__law_some_book : mg "_law_some_book" = some (.ref f__law_some_book)
  b__law_some_book : Binds K fd__law_some_book ["jar", "world", "mode", "slots"] []
  f__law_some_mode : Addr
  fd__law_some_mode : FuncData
  F__law_some_mode : Fun K "_law_some_mode" "_law_some_mode" s__law_some_mode f__law_some_mode fd__law_some_mode
  g__law_some_mode : mg "_law_some_mode" = some (.ref f__law_some_mode)
  b__law_some_mode : Binds K fd__law_some_mode ["jar"] []
  f__law_door_words : Addr
  fd__law_door_words : FuncData
  F__law_door_words : Fun K "_law_door_words" "_law_door_words" s__law_door_words f__law_door_words fd__law_door_words
  g__law_door_words : mg "_law_door_words" = some (.ref f__law_door_words)
  b__law_door_words : Binds K fd__law_door_words ["gate"] []
  f__law_some_door : Addr
  fd__law_some_door : FuncData
  F__law_some_door : Fun K "_law_some_door" "_law_some_door" s__law_some_door f__law_some_door fd__law_some_door
  g__law_some_door : mg "_law_some_door" = some (.ref f__law_some_door)
  b__law_some_door : Binds K fd__law_some_door ["jar", "world"] []
  f__law_other_words : Addr
  fd__law_other_words : FuncData
  F__law_other_words : Fun K "_law_other_words" "_law_other_words" s__law_other_words f__law_other_words fd__law_other_words
  g__law_other_words : mg "_law_other_words" = some (.ref f__law_other_words)
  b__law_other_words : Binds K fd__law_other_words ["jar", "parts"] []
  f__law_letter : Addr
  fd__law_letter : FuncData
  F__law_letter : Fun K "_law_letter" "_law_letter" s__law_letter f__law_letter fd__law_letter
  g__law_letter : mg "_law_letter" = some (.ref f__law_letter)
  b__law_letter : Binds K fd__law_letter ["word", "many"] []
  f__law_spots_read : Addr
  fd__law_spots_read : FuncData
  F__law_spots_read : Fun K "_law_spots_read" "_law_spots_read" s__law_spots_read f__law_spots_read fd__law_spots_read
  g__law_spots_read : mg "_law_spots_read" = some (.ref f__law_spots_read)
  b__law_spots_read : Binds K fd__law_spots_read ["parts", "first", "many", "rising"] []
  f__law_world_read : Addr
  fd__law_world_read : FuncData
  F__law_world_read : Fun K "_law_world_read" "_law_world_read" s__law_world_read f__law_world_read fd__law_world_read
  g__law_world_read : mg "_law_world_read" = some (.ref f__law_world_read)
  b__law_world_read : Binds K fd__law_world_read ["parts", "first"] []
  f__law_row_read : Addr
  fd__law_row_read : FuncData
  F__law_row_read : Fun K "_law_row_read" "_law_row_read" s__law_row_read f__law_row_read fd__law_row_read
  g__law_row_read : mg "_law_row_read" = some (.ref f__law_row_read)
  b__law_row_read : Binds K fd__law_row_read ["word"] []
  f__law_book_read : Addr
  fd__law_book_read : FuncData
  F__law_book_read : Fun K "_law_book_read" "_law_book_read" s__law_book_read f__law_book_read fd__law_book_read
  g__law_book_read : mg "_law_book_read" = some (.ref f__law_book_read)
  b__law_book_read : Binds K fd__law_book_read ["parts"] []
  f__law_pairs_read : Addr
  fd__law_pairs_read : FuncData
  F__law_pairs_read : Fun K "_law_pairs_read" "_law_pairs_read" s__law_pairs_read f__law_pairs_read fd__law_pairs_read
  g__law_pairs_read : mg "_law_pairs_read" = some (.ref f__law_pairs_read)
  b__law_pairs_read : Binds K fd__law_pairs_read ["parts", "many"] []
  f__law_gate_read : Addr
  fd__law_gate_read : FuncData
  F__law_gate_read : Fun K "_law_gate_read" "_law_gate_read" s__law_gate_read f__law_gate_read fd__law_gate_read
  g__law_gate_read : mg "_law_gate_read" = some (.ref f__law_gate_read)
  b__law_gate_read : Binds K fd__law_gate_read ["parts", "many"] []
  f__law_fill : Addr
  fd__law_fill : FuncData
  F__law_fill : Fun K "_law_fill" "_law_fill" s__law_fill f__law_fill fd__law_fill
  g__law_fill : mg "_law_fill" = some (.ref f__law_fill)
  b__law_fill : Binds K fd__law_fill ["cell"] []
  f__law_some_world : Addr
  fd__law_some_world : FuncData
  F__law_some_world : Fun K "_law_some_world" "_law_some_world" s__law_some_world f__law_some_world fd__law_some_world
  g__law_some_world : mg "_law_some_world" = some (.ref f__law_some_world)
  b__law_some_world : Binds K fd__law_some_world ["jar", "reach"] []
  f__law_same : Addr
  fd__law_same : FuncData
  F__law_same : Fun K "_law_same" "_law_same" s__law_same f__law_same fd__law_same
  g__law_same : mg "_law_same" = some (.ref f__law_same)
  b__law_same : Binds K fd__law_same ["told", "due"] []
  f__law_stands_under : Addr
  fd__law_stands_under : FuncData
  F__law_stands_under : Fun K "_law_stands_under" "_law_stands_under" s__law_stands_under f__law_stands_under fd__law_stands_under
  g__law_stands_under : mg "_law_stands_under" = some (.ref f__law_stands_under)
  b__law_stands_under : Binds K fd__law_stands_under ["caught"] []
  f__law_placed : Addr
  fd__law_placed : FuncData
  F__law_placed : Fun K "_law_placed" "_law_placed" s__law_placed f__law_placed fd__law_placed
  g__law_placed : mg "_law_placed" = some (.ref f__law_placed)
  b__law_placed : Binds K fd__law_placed ["reader", "world", "text"] []
  f__law_some_text : Addr
  fd__law_some_text : FuncData
  F__law_some_text : Fun K "_law_some_text" "_law_some_text" s__law_some_text f__law_some_text fd__law_some_text
  g__law_some_text : mg "_law_some_text" = some (.ref f__law_some_text)
  b__law_some_text : Binds K fd__law_some_text ["jar", "reader", "world"] []
  f__law_text_read : Addr
  fd__law_text_read : FuncData
  F__law_text_read : Fun K "_law_text_read" "_law_text_read" s__law_text_read f__law_text_read fd__law_text_read
  g__law_text_read : mg "_law_text_read" = some (.ref f__law_text_read)
  b__law_text_read : Binds K fd__law_text_read ["reader", "world", "text"] []
  f_law : Addr
  fd_law : FuncData
  F_law : Fun K "law" "law" s_law f_law fd_law
  g_law : mg "law" = some (.ref f_law)
  b_law : Binds K fd_law ["script"] []
  m_ValueError : mg "ValueError" = none
  m_bool : mg "bool" = none
  m_int : mg "int" = none
  m_isinstance : mg "isinstance" = none
  m_len : mg "len" = none
  m_list : mg "list" = none
  m_max : mg "max" = none
  m_min : mg "min" = none
  m_range : mg "range" = none
  m_repr : mg "repr" = none
  m_str : mg "str" = none
  m_tuple : mg "tuple" = none
  c_WishError : Addr
  gc_WishError : mg "WishError" = some (.ref c_WishError)
  n_WishError : PySem.W.nsIn K mainGlobals "WishError" = some (some (.ref c_WishError))
  c_InvalidTree : Addr
  gc_InvalidTree : mg "InvalidTree" = some (.ref c_InvalidTree)
  n_InvalidTree : PySem.W.nsIn K mainGlobals "InvalidTree" = some (some (.ref c_InvalidTree))
  c_InvalidLocale : Addr
  gc_InvalidLocale : mg "InvalidLocale" = some (.ref c_InvalidLocale)
  n_InvalidLocale : PySem.W.nsIn K mainGlobals "InvalidLocale" = some (some (.ref c_InvalidLocale))
  c_InvalidWishes : Addr
  gc_InvalidWishes : mg "InvalidWishes" = some (.ref c_InvalidWishes)
  n_InvalidWishes : PySem.W.nsIn K mainGlobals "InvalidWishes" = some (some (.ref c_InvalidWishes))
  c_InvalidWay : Addr
  gc_InvalidWay : mg "InvalidWay" = some (.ref c_InvalidWay)
  n_InvalidWay : PySem.W.nsIn K mainGlobals "InvalidWay" = some (some (.ref c_InvalidWay))
  c_InvalidCatalog : Addr
  gc_InvalidCatalog : mg "InvalidCatalog" = some (.ref c_InvalidCatalog)
  n_InvalidCatalog : PySem.W.nsIn K mainGlobals "InvalidCatalog" = some (some (.ref c_InvalidCatalog))
  c_InvalidKey : Addr
  gc_InvalidKey : mg "InvalidKey" = some (.ref c_InvalidKey)
  n_InvalidKey : PySem.W.nsIn K mainGlobals "InvalidKey" = some (some (.ref c_InvalidKey))
  c_InvalidText : Addr
  gc_InvalidText : mg "InvalidText" = some (.ref c_InvalidText)
  n_InvalidText : PySem.W.nsIn K mainGlobals "InvalidText" = some (some (.ref c_InvalidText))
  c_InvalidPage : Addr
  gc_InvalidPage : mg "InvalidPage" = some (.ref c_InvalidPage)
  n_InvalidPage : PySem.W.nsIn K mainGlobals "InvalidPage" = some (some (.ref c_InvalidPage))
  c_InvalidDoor : Addr
  gc_InvalidDoor : mg "InvalidDoor" = some (.ref c_InvalidDoor)
  n_InvalidDoor : PySem.W.nsIn K mainGlobals "InvalidDoor" = some (some (.ref c_InvalidDoor))
  c_InvalidChoice : Addr
  gc_InvalidChoice : mg "InvalidChoice" = some (.ref c_InvalidChoice)
  n_InvalidChoice : PySem.W.nsIn K mainGlobals "InvalidChoice" = some (some (.ref c_InvalidChoice))
  c_InvalidIndex : Addr
  gc_InvalidIndex : mg "InvalidIndex" = some (.ref c_InvalidIndex)
  n_InvalidIndex : PySem.W.nsIn K mainGlobals "InvalidIndex" = some (some (.ref c_InvalidIndex))
  c_Unlike : Addr
  gc_Unlike : mg "Unlike" = some (.ref c_Unlike)
  n_Unlike : PySem.W.nsIn K mainGlobals "Unlike" = some (some (.ref c_Unlike))
  c_Needless : Addr
  gc_Needless : mg "Needless" = some (.ref c_Needless)
  n_Needless : PySem.W.nsIn K mainGlobals "Needless" = some (some (.ref c_Needless))
  c_NothingThere : Addr
  gc_NothingThere : mg "NothingThere" = some (.ref c_NothingThere)
  n_NothingThere : PySem.W.nsIn K mainGlobals "NothingThere" = some (some (.ref c_NothingThere))
  c_NoBlock : Addr
  gc_NoBlock : mg "NoBlock" = some (.ref c_NoBlock)
  n_NoBlock : PySem.W.nsIn K mainGlobals "NoBlock" = some (some (.ref c_NoBlock))
  c_NothingToUndo : Addr
  gc_NothingToUndo : mg "NothingToUndo" = some (.ref c_NothingToUndo)
  n_NothingToUndo : PySem.W.nsIn K mainGlobals "NothingToUndo" = some (some (.ref c_NothingToUndo))
  c_InvalidCommand : Addr
  gc_InvalidCommand : mg "InvalidCommand" = some (.ref c_InvalidCommand)
  n_InvalidCommand : PySem.W.nsIn K mainGlobals "InvalidCommand" = some (some (.ref c_InvalidCommand))
  c_Mixed : Addr
  gc_Mixed : mg "Mixed" = some (.ref c_Mixed)
  n_Mixed : PySem.W.nsIn K mainGlobals "Mixed" = some (some (.ref c_Mixed))
  c_InvalidWords : Addr
  gc_InvalidWords : mg "InvalidWords" = some (.ref c_InvalidWords)
  n_InvalidWords : PySem.W.nsIn K mainGlobals "InvalidWords" = some (some (.ref c_InvalidWords))
  o_InvalidWords : OexC K c_InvalidWords
  fi_InvalidWords : Addr
  fdi_InvalidWords : FuncData
  Fi_InvalidWords : Fun K "__init__" "InvalidWords.__init__" (clsS (topS 20) 0) fi_InvalidWords fdi_InvalidWords
  ii_InvalidWords : PySem.W.findIn K (.ref c_InvalidWords) "__init__" = some (some (.ref fi_InvalidWords))
  ti_InvalidWords : PySem.W.typeIn K (.ref fi_InvalidWords) = some (.type "function")
  no_InvalidWords : PySem.W.findIn K (.ref c_InvalidWords) "place" = some none
  bi_InvalidWords : Binds K fdi_InvalidWords ["self", "place"] []
  bk_InvalidWords : ∀ (s : Shared) (a u : Value), K.In s.heap → BindsTo s fdi_InvalidWords ⟨[a], [("place", u)]⟩ ((["self", "place"] : List Str).zip [a, u])
  x_InvalidWords : PySem.W.exmOne K (.ref c_InvalidWords) (.ref c_InvalidWords) = some true
  xf_InvalidWords : XfC K c_InvalidWords
  ec_InvalidWords : ExcC K c_InvalidWords
  rd_WishError : PySem.W.readsIn K c_WishError (.type "type") = true
  sp_WishError : PySem.W.specialIn K (.ref c_WishError) "__getattribute__" = some (some (.builtin "type.__getattribute__"))
  v_WishError : PySem.W.findCls K (.ref c_WishError) (.type "type") "__init__" = some (.val (.builtin "ValueError.__init__"))
  k_InvalidWords_InvalidCatalog : PySem.W.kitOne K (.ref c_InvalidWords) (.ref c_InvalidCatalog) = some false
  k_InvalidWords_InvalidChoice : PySem.W.kitOne K (.ref c_InvalidWords) (.ref c_InvalidChoice) = some false
  k_InvalidWords_InvalidCommand : PySem.W.kitOne K (.ref c_InvalidWords) (.ref c_InvalidCommand) = some false
  k_InvalidWords_InvalidDoor : PySem.W.kitOne K (.ref c_InvalidWords) (.ref c_InvalidDoor) = some false
  k_InvalidWords_InvalidIndex : PySem.W.kitOne K (.ref c_InvalidWords) (.ref c_InvalidIndex) = some false
  k_InvalidWords_InvalidKey : PySem.W.kitOne K (.ref c_InvalidWords) (.ref c_InvalidKey) = some false
  k_InvalidWords_InvalidLocale : PySem.W.kitOne K (.ref c_InvalidWords) (.ref c_InvalidLocale) = some false
  k_InvalidWords_InvalidPage : PySem.W.kitOne K (.ref c_InvalidWords) (.ref c_InvalidPage) = some false
  k_InvalidWords_InvalidText : PySem.W.kitOne K (.ref c_InvalidWords) (.ref c_InvalidText) = some false
  k_InvalidWords_InvalidTree : PySem.W.kitOne K (.ref c_InvalidWords) (.ref c_InvalidTree) = some false
  k_InvalidWords_InvalidWay : PySem.W.kitOne K (.ref c_InvalidWords) (.ref c_InvalidWay) = some false
  k_InvalidWords_InvalidWishes : PySem.W.kitOne K (.ref c_InvalidWords) (.ref c_InvalidWishes) = some false
  k_InvalidWords_InvalidWords : PySem.W.kitOne K (.ref c_InvalidWords) (.ref c_InvalidWords) = some true
  k_InvalidWords_Mixed : PySem.W.kitOne K (.ref c_InvalidWords) (.ref c_Mixed) = some false
  k_InvalidWords_Needless : PySem.W.kitOne K (.ref c_InvalidWords) (.ref c_Needless) = some false
  k_InvalidWords_NoBlock : PySem.W.kitOne K (.ref c_InvalidWords) (.ref c_NoBlock) = some false
  k_InvalidWords_NothingThere : PySem.W.kitOne K (.ref c_InvalidWords) (.ref c_NothingThere) = some false
  k_InvalidWords_NothingToUndo : PySem.W.kitOne K (.ref c_InvalidWords) (.ref c_NothingToUndo) = some false
  k_InvalidWords_Unlike : PySem.W.kitOne K (.ref c_InvalidWords) (.ref c_Unlike) = some false
  k_InvalidWords_ValueError : PySem.W.kitOne K (.ref c_InvalidWords) (.type "ValueError") = some true
  k_InvalidWords_WishError : PySem.W.kitOne K (.ref c_InvalidWords) (.ref c_WishError) = some true
  t_LETTERS : Tok
  c_LETTERS : mg "LETTERS" = some (.str "abcdefghij" t_LETTERS)
  t_SIGNS : Tok
  c_SIGNS : mg "SIGNS" = some (.str "0123456789-" t_SIGNS)
theorem Tx.t_InvalidCatalog {K : PySem.W.Frag} {mg : Str → Option Value} (T : Tx K mg) (n : Str) (b : Bool) (C : Addr) (h : sub_InvalidCatalog n = some b) (hn : PySem.W.nsIn K mainGlobals n = some (some (.ref C))) : ExcC K C ∧ PySem.W.kitOne K (.ref C) (.ref T.c_InvalidCatalog) = some b := by
  unfold sub_InvalidCatalog at h
  split at h
  · rename_i e
    subst e
    rw [T.n_InvalidWords] at hn
    cases hn
    cases h
    exact ⟨T.ec_InvalidWords, T.k_InvalidWords_InvalidCatalog⟩
  cases h
theorem Tx.t_InvalidChoice {K : PySem.W.Frag} {mg : Str → Option Value} (T : Tx K mg) (n : Str) (b : Bool) (C : Addr) (h : sub_InvalidChoice n = some b) (hn : PySem.W.nsIn K mainGlobals n = some (some (.ref C))) : ExcC K C ∧ PySem.W.kitOne K (.ref C) (.ref T.c_InvalidChoice) = some b := by
  unfold sub_InvalidChoice at h
  split at h
  · rename_i e
    subst e
    rw [T.n_InvalidWords] at hn
    cases hn
    cases h
    exact ⟨T.ec_InvalidWords, T.k_InvalidWords_InvalidChoice⟩
  cases h
theorem Tx.t_InvalidCommand {K : PySem.W.Frag} {mg : Str → Option Value} (T : Tx K mg) (n : Str) (b : Bool) (C : Addr) (h : sub_InvalidCommand n = some b) (hn : PySem.W.nsIn K mainGlobals n = some (some (.ref C))) : ExcC K C ∧ PySem.W.kitOne K (.ref C) (.ref T.c_InvalidCommand) = some b := by
  unfold sub_InvalidCommand at h
  split at h
  · rename_i e
    subst e
    rw [T.n_InvalidWords] at hn
    cases hn
    cases h
    exact ⟨T.ec_InvalidWords, T.k_InvalidWords_InvalidCommand⟩
  cases h
theorem Tx.t_InvalidDoor {K : PySem.W.Frag} {mg : Str → Option Value} (T : Tx K mg) (n : Str) (b : Bool) (C : Addr) (h : sub_InvalidDoor n = some b) (hn : PySem.W.nsIn K mainGlobals n = some (some (.ref C))) : ExcC K C ∧ PySem.W.kitOne K (.ref C) (.ref T.c_InvalidDoor) = some b := by
  unfold sub_InvalidDoor at h
  split at h
  · rename_i e
    subst e
    rw [T.n_InvalidWords] at hn
    cases hn
    cases h
    exact ⟨T.ec_InvalidWords, T.k_InvalidWords_InvalidDoor⟩
  cases h
theorem Tx.t_InvalidIndex {K : PySem.W.Frag} {mg : Str → Option Value} (T : Tx K mg) (n : Str) (b : Bool) (C : Addr) (h : sub_InvalidIndex n = some b) (hn : PySem.W.nsIn K mainGlobals n = some (some (.ref C))) : ExcC K C ∧ PySem.W.kitOne K (.ref C) (.ref T.c_InvalidIndex) = some b := by
  unfold sub_InvalidIndex at h
  split at h
  · rename_i e
    subst e
    rw [T.n_InvalidWords] at hn
    cases hn
    cases h
    exact ⟨T.ec_InvalidWords, T.k_InvalidWords_InvalidIndex⟩
  cases h
theorem Tx.t_InvalidKey {K : PySem.W.Frag} {mg : Str → Option Value} (T : Tx K mg) (n : Str) (b : Bool) (C : Addr) (h : sub_InvalidKey n = some b) (hn : PySem.W.nsIn K mainGlobals n = some (some (.ref C))) : ExcC K C ∧ PySem.W.kitOne K (.ref C) (.ref T.c_InvalidKey) = some b := by
  unfold sub_InvalidKey at h
  split at h
  · rename_i e
    subst e
    rw [T.n_InvalidWords] at hn
    cases hn
    cases h
    exact ⟨T.ec_InvalidWords, T.k_InvalidWords_InvalidKey⟩
  cases h
theorem Tx.t_InvalidLocale {K : PySem.W.Frag} {mg : Str → Option Value} (T : Tx K mg) (n : Str) (b : Bool) (C : Addr) (h : sub_InvalidLocale n = some b) (hn : PySem.W.nsIn K mainGlobals n = some (some (.ref C))) : ExcC K C ∧ PySem.W.kitOne K (.ref C) (.ref T.c_InvalidLocale) = some b := by
  unfold sub_InvalidLocale at h
  split at h
  · rename_i e
    subst e
    rw [T.n_InvalidWords] at hn
    cases hn
    cases h
    exact ⟨T.ec_InvalidWords, T.k_InvalidWords_InvalidLocale⟩
  cases h
theorem Tx.t_InvalidPage {K : PySem.W.Frag} {mg : Str → Option Value} (T : Tx K mg) (n : Str) (b : Bool) (C : Addr) (h : sub_InvalidPage n = some b) (hn : PySem.W.nsIn K mainGlobals n = some (some (.ref C))) : ExcC K C ∧ PySem.W.kitOne K (.ref C) (.ref T.c_InvalidPage) = some b := by
  unfold sub_InvalidPage at h
  split at h
  · rename_i e
    subst e
    rw [T.n_InvalidWords] at hn
    cases hn
    cases h
    exact ⟨T.ec_InvalidWords, T.k_InvalidWords_InvalidPage⟩
  cases h
theorem Tx.t_InvalidText {K : PySem.W.Frag} {mg : Str → Option Value} (T : Tx K mg) (n : Str) (b : Bool) (C : Addr) (h : sub_InvalidText n = some b) (hn : PySem.W.nsIn K mainGlobals n = some (some (.ref C))) : ExcC K C ∧ PySem.W.kitOne K (.ref C) (.ref T.c_InvalidText) = some b := by
  unfold sub_InvalidText at h
  split at h
  · rename_i e
    subst e
    rw [T.n_InvalidWords] at hn
    cases hn
    cases h
    exact ⟨T.ec_InvalidWords, T.k_InvalidWords_InvalidText⟩
  cases h
theorem Tx.t_InvalidTree {K : PySem.W.Frag} {mg : Str → Option Value} (T : Tx K mg) (n : Str) (b : Bool) (C : Addr) (h : sub_InvalidTree n = some b) (hn : PySem.W.nsIn K mainGlobals n = some (some (.ref C))) : ExcC K C ∧ PySem.W.kitOne K (.ref C) (.ref T.c_InvalidTree) = some b := by
  unfold sub_InvalidTree at h
  split at h
  · rename_i e
    subst e
    rw [T.n_InvalidWords] at hn
    cases hn
    cases h
    exact ⟨T.ec_InvalidWords, T.k_InvalidWords_InvalidTree⟩
  cases h
theorem Tx.t_InvalidWay {K : PySem.W.Frag} {mg : Str → Option Value} (T : Tx K mg) (n : Str) (b : Bool) (C : Addr) (h : sub_InvalidWay n = some b) (hn : PySem.W.nsIn K mainGlobals n = some (some (.ref C))) : ExcC K C ∧ PySem.W.kitOne K (.ref C) (.ref T.c_InvalidWay) = some b := by
  unfold sub_InvalidWay at h
  split at h
  · rename_i e
    subst e
    rw [T.n_InvalidWords] at hn
    cases hn
    cases h
    exact ⟨T.ec_InvalidWords, T.k_InvalidWords_InvalidWay⟩
  cases h
theorem Tx.t_InvalidWishes {K : PySem.W.Frag} {mg : Str → Option Value} (T : Tx K mg) (n : Str) (b : Bool) (C : Addr) (h : sub_InvalidWishes n = some b) (hn : PySem.W.nsIn K mainGlobals n = some (some (.ref C))) : ExcC K C ∧ PySem.W.kitOne K (.ref C) (.ref T.c_InvalidWishes) = some b := by
  unfold sub_InvalidWishes at h
  split at h
  · rename_i e
    subst e
    rw [T.n_InvalidWords] at hn
    cases hn
    cases h
    exact ⟨T.ec_InvalidWords, T.k_InvalidWords_InvalidWishes⟩
  cases h
theorem Tx.t_InvalidWords {K : PySem.W.Frag} {mg : Str → Option Value} (T : Tx K mg) (n : Str) (b : Bool) (C : Addr) (h : sub_InvalidWords n = some b) (hn : PySem.W.nsIn K mainGlobals n = some (some (.ref C))) : ExcC K C ∧ PySem.W.kitOne K (.ref C) (.ref T.c_InvalidWords) = some b := by
  unfold sub_InvalidWords at h
  split at h
  · rename_i e
    subst e
    rw [T.n_InvalidWords] at hn
    cases hn
    cases h
    exact ⟨T.ec_InvalidWords, T.k_InvalidWords_InvalidWords⟩
  cases h
theorem Tx.t_Mixed {K : PySem.W.Frag} {mg : Str → Option Value} (T : Tx K mg) (n : Str) (b : Bool) (C : Addr) (h : sub_Mixed n = some b) (hn : PySem.W.nsIn K mainGlobals n = some (some (.ref C))) : ExcC K C ∧ PySem.W.kitOne K (.ref C) (.ref T.c_Mixed) = some b := by
  unfold sub_Mixed at h
  split at h
  · rename_i e
    subst e
    rw [T.n_InvalidWords] at hn
    cases hn
    cases h
    exact ⟨T.ec_InvalidWords, T.k_InvalidWords_Mixed⟩
  cases h
theorem Tx.t_Needless {K : PySem.W.Frag} {mg : Str → Option Value} (T : Tx K mg) (n : Str) (b : Bool) (C : Addr) (h : sub_Needless n = some b) (hn : PySem.W.nsIn K mainGlobals n = some (some (.ref C))) : ExcC K C ∧ PySem.W.kitOne K (.ref C) (.ref T.c_Needless) = some b := by
  unfold sub_Needless at h
  split at h
  · rename_i e
    subst e
    rw [T.n_InvalidWords] at hn
    cases hn
    cases h
    exact ⟨T.ec_InvalidWords, T.k_InvalidWords_Needless⟩
  cases h
theorem Tx.t_NoBlock {K : PySem.W.Frag} {mg : Str → Option Value} (T : Tx K mg) (n : Str) (b : Bool) (C : Addr) (h : sub_NoBlock n = some b) (hn : PySem.W.nsIn K mainGlobals n = some (some (.ref C))) : ExcC K C ∧ PySem.W.kitOne K (.ref C) (.ref T.c_NoBlock) = some b := by
  unfold sub_NoBlock at h
  split at h
  · rename_i e
    subst e
    rw [T.n_InvalidWords] at hn
    cases hn
    cases h
    exact ⟨T.ec_InvalidWords, T.k_InvalidWords_NoBlock⟩
  cases h
theorem Tx.t_NothingThere {K : PySem.W.Frag} {mg : Str → Option Value} (T : Tx K mg) (n : Str) (b : Bool) (C : Addr) (h : sub_NothingThere n = some b) (hn : PySem.W.nsIn K mainGlobals n = some (some (.ref C))) : ExcC K C ∧ PySem.W.kitOne K (.ref C) (.ref T.c_NothingThere) = some b := by
  unfold sub_NothingThere at h
  split at h
  · rename_i e
    subst e
    rw [T.n_InvalidWords] at hn
    cases hn
    cases h
    exact ⟨T.ec_InvalidWords, T.k_InvalidWords_NothingThere⟩
  cases h
theorem Tx.t_NothingToUndo {K : PySem.W.Frag} {mg : Str → Option Value} (T : Tx K mg) (n : Str) (b : Bool) (C : Addr) (h : sub_NothingToUndo n = some b) (hn : PySem.W.nsIn K mainGlobals n = some (some (.ref C))) : ExcC K C ∧ PySem.W.kitOne K (.ref C) (.ref T.c_NothingToUndo) = some b := by
  unfold sub_NothingToUndo at h
  split at h
  · rename_i e
    subst e
    rw [T.n_InvalidWords] at hn
    cases hn
    cases h
    exact ⟨T.ec_InvalidWords, T.k_InvalidWords_NothingToUndo⟩
  cases h
theorem Tx.t_Unlike {K : PySem.W.Frag} {mg : Str → Option Value} (T : Tx K mg) (n : Str) (b : Bool) (C : Addr) (h : sub_Unlike n = some b) (hn : PySem.W.nsIn K mainGlobals n = some (some (.ref C))) : ExcC K C ∧ PySem.W.kitOne K (.ref C) (.ref T.c_Unlike) = some b := by
  unfold sub_Unlike at h
  split at h
  · rename_i e
    subst e
    rw [T.n_InvalidWords] at hn
    cases hn
    cases h
    exact ⟨T.ec_InvalidWords, T.k_InvalidWords_Unlike⟩
  cases h
theorem Tx.t_ValueError {K : PySem.W.Frag} {mg : Str → Option Value} (T : Tx K mg) (n : Str) (b : Bool) (C : Addr) (h : sub_ValueError n = some b) (hn : PySem.W.nsIn K mainGlobals n = some (some (.ref C))) : ExcC K C ∧ PySem.W.kitOne K (.ref C) (.type "ValueError") = some b := by
  unfold sub_ValueError at h
  split at h
  · rename_i e
    subst e
    rw [T.n_InvalidWords] at hn
    cases hn
    cases h
    exact ⟨T.ec_InvalidWords, T.k_InvalidWords_ValueError⟩
  cases h
theorem Tx.t_WishError {K : PySem.W.Frag} {mg : Str → Option Value} (T : Tx K mg) (n : Str) (b : Bool) (C : Addr) (h : sub_WishError n = some b) (hn : PySem.W.nsIn K mainGlobals n = some (some (.ref C))) : ExcC K C ∧ PySem.W.kitOne K (.ref C) (.ref T.c_WishError) = some b := by
  unfold sub_WishError at h
  split at h
  · rename_i e
    subst e
    rw [T.n_InvalidWords] at hn
    cases hn
    cases h
    exact ⟨T.ec_InvalidWords, T.k_InvalidWords_WishError⟩
  cases h
theorem Tx.f_place {K : PySem.W.Frag} {mg : Str → Option Value} (T : Tx K mg) (n : Str) (C : Addr) (h : okc_place n = true) (hn : PySem.W.nsIn K mainGlobals n = some (some (.ref C))) : XfC K C ∧ PySem.W.findIn K (.ref C) "place" = some none := by
  unfold okc_place at h
  have e := of_decide_eq_true h
  subst e
  rw [T.n_InvalidWords] at hn
  cases hn
  exact ⟨T.xf_InvalidWords, T.no_InvalidWords⟩
section
variable {P : Program} {w : World} {K : PySem.W.Frag} {mg : Str → Option Value} {base : Heap}
theorem sc_init_InvalidWords : FnScope ["self", "place"] ["self", "place"] (defScope (clsS (topS 20) 0)) := ⟨rfl, rfl, rfl, by decide +kernel, rfl, by decide +kernel, by decide +kernel⟩
theorem ok_init_InvalidWords (T : Tx K mg) : FnOk P w K mg base CX0 1 T.fi_InvalidWords T.fdi_InvalidWords ["self", "place"] (spInit "place" K) :=
  ok_init (k := 0) (m := "a word cannot stand at its place") T.Fi_InvalidWords sc_init_InvalidWords rfl rfl (fun cdv A outer s H E hr =>
    pss_cons (ps_expr (pe_ownInit (by rfl) T.gc_WishError T.rd_WishError T.sp_WishError T.v_WishError (pa_cons (pv 0) (pa_cons pe_str pa_nil)))) (pss_one (ps_ost (pv 0) (pv 1))))
abbrev N_is_integer : List Str := ["value"]
theorem sc_is_integer : FnScope N_is_integer ["value"] (defScope s_is_integer) := ⟨rfl, rfl, rfl, by decide +kernel, rfl, by decide +kernel, by decide +kernel⟩
theorem ok_is_integer (T : Tx K mg) : FnOk P w K mg base CX0 1 T.f_is_integer T.fd_is_integer ["value"] (spD K run_is_integer) :=
  okD T.F_is_integer sc_is_integer rfl (fun cdv A outer s H E hr =>
    pds_one (pds_ret (pd_andV (pd_isi (by rfl) T.m_isinstance (by rfl) T.m_int (by decide +kernel) (pd_var (pv 0))) (pe_one (pd_notV (pd_isi (by rfl) T.m_isinstance (by rfl) T.m_bool (by decide +kernel) (pd_var (pv 0))))))))
abbrev N_is_tree : List Str := ["value", "index"]
theorem sc_is_tree : FnScope N_is_tree ["value"] (defScope s_is_tree) := ⟨rfl, rfl, rfl, by decide +kernel, rfl, by decide +kernel, by decide +kernel⟩
theorem ok_is_tree (T : Tx K mg) : FnOk P w K mg base CX0 2 T.f_is_tree T.fd_is_tree ["value"] (spD K run_is_tree) :=
  okD T.F_is_tree sc_is_tree rfl (fun cdv A outer s H E hr =>
    pds_cons (pds_if (PW.pt (pd_or (pd_notT (pd_tru (pd_isi (by rfl) T.m_isinstance (by rfl) T.m_tuple (by decide +kernel) (pd_var (pv 0))))) (pd_or (pd_notT (pd_chainT op_leD op_leD (pd_int) (pd_callB call_lenD (by rfl) T.m_len PySem.boot_len (pda_cons (pd_var (pv 0)) (pda_nil))) (pd_int))) (pw_or1 (pd_cmpT op_isntD (pd_ix (pd_var (pv 0)) (pd_int)) (pd_non) (nomark _)))))) (pds_one (pds_ret (pd_bl))) (pds_nil)) (pds_cons (pds_for (tg := .one 1) PassesOwn.never rfl (pdi_rng2 (by rfl) T.m_range (pda_cons (pd_int) (pda_cons (pd_callB call_lenD (by rfl) T.m_len PySem.boot_len (pda_cons (pd_var (pv 0)) (pda_nil))) (pda_nil)))) (pg_name (i := 1) sc_is_tree.nd rfl (Or.inl rfl)) (pds_one (pds_if (PW.pt (pd_or (pd_notT (pd_tru (pd_fn (ok_is_integer T) (hr.mono (by decide)) (by rfl) T.g_is_integer T.F_is_integer.kp T.b_is_integer pass0 (pda_cons (pd_ix (pd_var (pv 0)) (pd_var (pv 1))) (pda_nil))))) (pw_or1 (pd_notT (pd_chainT op_leD op_ltD (pd_int) (pd_ix (pd_var (pv 0)) (pd_var (pv 1))) (pd_var (pv 1))))))) (pds_one (pds_ret (pd_bl))) (pds_nil)))) (pds_one (pds_ret (pd_bl)))))
abbrev N_need_tree : List Str := ["tree"]
theorem sc_need_tree : FnScope N_need_tree ["tree"] (defScope s_need_tree) := ⟨rfl, rfl, rfl, by decide +kernel, rfl, by decide +kernel, by decide +kernel⟩
theorem ok_need_tree (T : Tx K mg) : FnOk P w K mg base CX0 3 T.f_need_tree T.fd_need_tree ["tree"] (spD K run_need_tree) :=
  okD T.F_need_tree sc_need_tree rfl (fun cdv A outer s H E hr =>
    pds_one (pds_if (pd_notT (pd_tru (pd_fn (ok_is_tree T) (hr.mono (by decide)) (by rfl) T.g_is_tree T.F_is_tree.kp T.b_is_tree pass0 (pda_cons (pd_var (pv 0)) (pda_nil))))) (pds_one (pds_stuck)) (pds_nil)))
abbrev N_is_way : List Str := ["value"]
theorem sc_is_way : FnScope N_is_way ["value"] (defScope s_is_way) := ⟨rfl, rfl, rfl, by decide +kernel, rfl, by decide +kernel, by decide +kernel⟩
theorem ok_is_way (T : Tx K mg) : FnOk P w K mg base CX0 1 T.f_is_way T.fd_is_way ["value"] (spD K run_is_way) :=
  okD T.F_is_way sc_is_way rfl (fun cdv A outer s H E hr =>
    pds_one (pds_ret (pd_andV (pd_isi (by rfl) T.m_isinstance (by rfl) T.m_str (by decide +kernel) (pd_var (pv 0))) (pe_one (pd_cmp op_inD (pd_var (pv 0)) (pd_tup (pda_cons (pd_str) (pda_cons (pd_str) (pda_nil)))) (by rfl))))))
abbrev N_locale_read : List Str := ["word", "count"]
theorem sc_locale_read : FnScope N_locale_read ["word", "count"] (defScope s_locale_read) := ⟨rfl, rfl, rfl, by decide +kernel, rfl, by decide +kernel, by decide +kernel⟩
theorem ok_locale_read (T : Tx K mg) : FnOk P w K mg base CX0 1 T.f_locale_read T.fd_locale_read ["word", "count"] (spD K run_locale_read) :=
  okD T.F_locale_read sc_locale_read rfl (fun cdv A outer s H E hr =>
    pds_cons (pds_if (PW.pt (pd_or (pd_cmpT (op_neDD hr.units) (pd_callB call_lenD (by rfl) T.m_len PySem.boot_len (pda_cons (pd_var (pv 0)) (pda_nil))) (pd_int) (nomark _)) (pw_or1 (pd_cmpT op_notInD (pd_var (pv 0)) (pd_slice (pd_c (pe_glob (v := .str "abcdefghij") (by rfl) T.c_LETTERS ⟨_, rfl⟩) (fun _ => .str _)) (po_no) (po_part (pd_var (pv 1)))) (by rfl))))) (pds_one (pds_ret (pd_non))) (pds_nil)) (pds_one (pds_ret (pd_meth PySem.F.slot_str_index PySem.F.type_str_index mt_indexD (pd_c (pe_glob (v := .str "abcdefghij") (by rfl) T.c_LETTERS ⟨_, rfl⟩) (fun _ => .str _)) (pda_cons (pd_var (pv 0)) (pda_nil))))))
abbrev N_row_read : List Str := ["word", "row", "sign"]
theorem sc_row_read : FnScope N_row_read ["word"] (defScope s_row_read) := ⟨rfl, rfl, rfl, by decide +kernel, rfl, by decide +kernel, by decide +kernel⟩
theorem ok_row_read (T : Tx K mg) : FnOk P w K mg base CX0 1 T.f_row_read T.fd_row_read ["word"] (spD K run_row_read) :=
  okD T.F_row_read sc_row_read rfl (fun cdv A outer s H E hr =>
    pds_cons (pds_if (pd_notT (pd_chainT op_leD op_leD (pd_int) (pd_callB call_lenD (by rfl) T.m_len PySem.boot_len (pda_cons (pd_var (pv 0)) (pda_nil))) (pd_int))) (pds_one (pds_ret (pd_non))) (pds_nil)) (pds_cons (pds_own (i := 1) (ps_set (i := 1) sc_row_read.nd rfl (.inl rfl) (pd_lst (pda_nil)))) (pds_cons (pds_for (tg := .one 2) PassesOwn.never rfl (pdi_seq (pd_var (pv 0))) (pg_name (i := 2) sc_row_read.nd rfl (Or.inl rfl)) (pds_cons (pds_if (pd_cmpT op_notInD (pd_var (pv 2)) (pd_c (pe_glob (v := .str "0123456789-") (by rfl) T.c_SIGNS ⟨_, rfl⟩) (fun _ => .str _)) (by rfl)) (pds_one (pds_ret (pd_non))) (pds_nil)) (pds_one (pds_app (i := 1) (pv 1) (pd_ifE (pd_cmpT (op_eqDD hr.units) (pd_var (pv 2)) (pd_str) (nomark _)) (pd_non) (pd_meth PySem.F.slot_str_index PySem.F.type_str_index mt_indexD (pd_c (pe_glob (v := .str "0123456789-") (by rfl) T.c_SIGNS ⟨_, rfl⟩) (fun _ => .str _)) (pda_cons (pd_var (pv 2)) (pda_nil)))))))) (pds_one (pds_ret (pd_callT call_tupleD (by rfl) T.m_tuple (by decide +kernel) (pda_cons (pd_var (pv 1)) (pda_nil))))))))
abbrev N_none_written : List Str := ["parts", "first"]
theorem sc_none_written : FnScope N_none_written ["parts", "first"] (defScope s_none_written) := ⟨rfl, rfl, rfl, by decide +kernel, rfl, by decide +kernel, by decide +kernel⟩
theorem ok_none_written (T : Tx K mg) : FnOk P w K mg base (L2.CX P w) 3 T.f_none_written T.fd_none_written ["parts", "first"] (spX K run_none_written) :=
  okX T.F_none_written sc_none_written rfl (fun cdv A outer s H E hr =>
    px_cons (px_if (px_t (pd_cmpT op_leD (pd_callB call_lenD (by rfl) T.m_len PySem.boot_len (pda_cons (pd_var (pv 0)) (pda_nil))) (pd_var (pv 1)) (nomark _))) (px_one (px_raise rfl (takes_of rfl rfl rfl rfl) T.o_InvalidWords T.ii_InvalidWords T.ti_InvalidWords T.no_InvalidWords T.n_InvalidWords (ok_init_InvalidWords T) (hr.mono (by decide)) T.bi_InvalidWords (by rfl) T.gc_InvalidWords (pda_cons (pd_callB call_lenD (by rfl) T.m_len PySem.boot_len (pda_cons (pd_var (pv 0)) (pda_nil))) (pda_nil)))) (px_ss (pds_nil))) (px_cons (px_s (pds_if (pd_cmpT (op_neDD hr.units) (pd_ix (pd_var (pv 0)) (pd_var (pv 1))) (pd_str) (nomark _)) (pds_one (pds_ret (pd_bl))) (pds_nil))) (px_cons (px_if (px_t (pd_cmpT op_gtD (pd_callB call_lenD (by rfl) T.m_len PySem.boot_len (pda_cons (pd_var (pv 0)) (pda_nil))) (pd_op op_addD (pd_var (pv 1)) (pd_int)) (nomark _))) (px_one (px_raise rfl (takes_of rfl rfl rfl rfl) T.o_InvalidWords T.ii_InvalidWords T.ti_InvalidWords T.no_InvalidWords T.n_InvalidWords (ok_init_InvalidWords T) (hr.mono (by decide)) T.bi_InvalidWords (by rfl) T.gc_InvalidWords (pda_cons (pd_op op_addD (pd_var (pv 1)) (pd_int)) (pda_nil)))) (px_ss (pds_nil))) (px_one (px_s (pds_ret (pd_bl)))))))
abbrev N_locales_read : List Str := ["parts", "first", "count", "rising", "found", "index", "locale"]
theorem sc_locales_read : FnScope N_locales_read ["parts", "first", "count", "rising"] (defScope s_locales_read) := ⟨rfl, rfl, rfl, by decide +kernel, rfl, by decide +kernel, by decide +kernel⟩
theorem ok_locales_read (T : Tx K mg) : FnOk P w K mg base (L2.CX P w) 4 T.f_locales_read T.fd_locales_read ["parts", "first", "count", "rising"] (spX K run_locales_read) :=
  okX T.F_locales_read sc_locales_read rfl (fun cdv A outer s H E hr =>
    px_cons (px_if (px_tru (px_fn (takes_of rfl rfl rfl rfl) (ok_none_written T) (hr.mono (by decide)) (by rfl) T.g_none_written T.F_none_written.kp T.b_none_written (pda_cons (pd_var (pv 0)) (pda_cons (pd_var (pv 1)) (pda_nil))))) (px_ss (pds_one (pds_ret (pd_tup (pda_nil))))) (px_ss (pds_nil))) (px_cons (px_s (pds_own (i := 4) (ps_set (i := 4) sc_locales_read.nd rfl (.inl rfl) (pd_lst (pda_nil))))) (px_cons (px_for (tg := .one 5) (passes_of rfl) rfl (pdi_rng2 (by rfl) T.m_range (pda_cons (pd_var (pv 1)) (pda_cons (pd_callB call_lenD (by rfl) T.m_len PySem.boot_len (pda_cons (pd_var (pv 0)) (pda_nil))) (pda_nil)))) (pg_name (i := 5) sc_locales_read.nd rfl (Or.inl rfl)) (px_cons (px_s (pds_set (i := 6) (ps_set (i := 6) sc_locales_read.nd rfl (.inl rfl) (pd_fn (ok_locale_read T) (hr.mono (by decide)) (by rfl) T.g_locale_read T.F_locale_read.kp T.b_locale_read pass0 (pda_cons (pd_ix (pd_var (pv 0)) (pd_var (pv 5))) (pda_cons (pd_var (pv 2)) (pda_nil))))))) (px_cons (px_if (px_t (PW.pt (pd_or (pd_cmpT op_isD (pd_var (pv 6)) (pd_non) (nomark _)) (pw_or1 (PW.pt (pd_and (pd_tru (pd_var (pv 3))) (pd_and (pd_cmpT (op_neDD hr.units) (pd_var (pv 4)) (pd_lst (pda_nil)) (nomark _)) (pw_and1 (pd_cmpT op_leD (pd_var (pv 6)) (pd_ix (pd_var (pv 4)) (pd_neg (pd_int))) (nomark _)))))))))) (px_one (px_raise rfl (takes_of rfl rfl rfl rfl) T.o_InvalidWords T.ii_InvalidWords T.ti_InvalidWords T.no_InvalidWords T.n_InvalidWords (ok_init_InvalidWords T) (hr.mono (by decide)) T.bi_InvalidWords (by rfl) T.gc_InvalidWords (pda_cons (pd_var (pv 5)) (pda_nil)))) (px_ss (pds_nil))) (px_one (px_s (pds_app (i := 4) (pv 4) (pd_var (pv 6)))))))) (px_one (px_s (pds_ret (pd_callT call_tupleD (by rfl) T.m_tuple (by decide +kernel) (pda_cons (pd_var (pv 4)) (pda_nil)))))))))
abbrev N_pairs_read : List Str := ["parts", "first", "count", "found", "index", "word", "before", "after"]
theorem sc_pairs_read : FnScope N_pairs_read ["parts", "first", "count"] (defScope s_pairs_read) := ⟨rfl, rfl, rfl, by decide +kernel, rfl, by decide +kernel, by decide +kernel⟩
theorem ok_pairs_read (T : Tx K mg) : FnOk P w K mg base (L2.CX P w) 4 T.f_pairs_read T.fd_pairs_read ["parts", "first", "count"] (spX K run_pairs_read) :=
  okX T.F_pairs_read sc_pairs_read rfl (fun cdv A outer s H E hr =>
    px_cons (px_if (px_tru (px_fn (takes_of rfl rfl rfl rfl) (ok_none_written T) (hr.mono (by decide)) (by rfl) T.g_none_written T.F_none_written.kp T.b_none_written (pda_cons (pd_var (pv 0)) (pda_cons (pd_var (pv 1)) (pda_nil))))) (px_ss (pds_one (pds_ret (pd_tup (pda_nil))))) (px_ss (pds_nil))) (px_cons (px_s (pds_own (i := 3) (ps_set (i := 3) sc_pairs_read.nd rfl (.inl rfl) (pd_lst (pda_nil))))) (px_cons (px_for (tg := .one 4) (passes_of rfl) rfl (pdi_rng2 (by rfl) T.m_range (pda_cons (pd_var (pv 1)) (pda_cons (pd_callB call_lenD (by rfl) T.m_len PySem.boot_len (pda_cons (pd_var (pv 0)) (pda_nil))) (pda_nil)))) (pg_name (i := 4) sc_pairs_read.nd rfl (Or.inl rfl)) (px_cons (px_s (pds_set (i := 5) (ps_set (i := 5) sc_pairs_read.nd rfl (.inl rfl) (pd_ix (pd_var (pv 0)) (pd_var (pv 4)))))) (px_cons (px_s (pds_set (i := 6) (ps_set (i := 6) sc_pairs_read.nd rfl (.inl rfl) (pd_fn (ok_locale_read T) (hr.mono (by decide)) (by rfl) T.g_locale_read T.F_locale_read.kp T.b_locale_read pass0 (pda_cons (pd_slice (pd_var (pv 5)) (po_no) (po_part (pd_int))) (pda_cons (pd_var (pv 2)) (pda_nil))))))) (px_cons (px_s (pds_set (i := 7) (ps_set (i := 7) sc_pairs_read.nd rfl (.inl rfl) (pd_fn (ok_locale_read T) (hr.mono (by decide)) (by rfl) T.g_locale_read T.F_locale_read.kp T.b_locale_read pass0 (pda_cons (pd_slice (pd_var (pv 5)) (po_part (pd_int)) (po_no)) (pda_cons (pd_var (pv 2)) (pda_nil))))))) (px_cons (px_if (px_t (PW.pt (pd_or (pd_cmpT op_isD (pd_var (pv 6)) (pd_non) (nomark _)) (pd_or (pd_cmpT op_isD (pd_var (pv 7)) (pd_non) (nomark _)) (pw_or1 (pd_cmpT (op_neDD hr.units) (pd_ix (pd_var (pv 5)) (pd_int)) (pd_str) (nomark _))))))) (px_one (px_raise rfl (takes_of rfl rfl rfl rfl) T.o_InvalidWords T.ii_InvalidWords T.ti_InvalidWords T.no_InvalidWords T.n_InvalidWords (ok_init_InvalidWords T) (hr.mono (by decide)) T.bi_InvalidWords (by rfl) T.gc_InvalidWords (pda_cons (pd_var (pv 4)) (pda_nil)))) (px_ss (pds_nil))) (px_cons (px_if (px_t (PW.pt (pd_and (pd_cmpT (op_neDD hr.units) (pd_var (pv 3)) (pd_lst (pda_nil)) (nomark _)) (pw_and1 (pd_cmpT op_leD (pd_var (pv 6)) (pd_ix (pd_ix (pd_var (pv 3)) (pd_neg (pd_int))) (pd_int)) (nomark _)))))) (px_one (px_raise rfl (takes_of rfl rfl rfl rfl) T.o_InvalidWords T.ii_InvalidWords T.ti_InvalidWords T.no_InvalidWords T.n_InvalidWords (ok_init_InvalidWords T) (hr.mono (by decide)) T.bi_InvalidWords (by rfl) T.gc_InvalidWords (pda_cons (pd_var (pv 4)) (pda_nil)))) (px_ss (pds_nil))) (px_one (px_s (pds_app (i := 3) (pv 3) (pd_tup (pda_cons (pd_var (pv 6)) (pda_cons (pd_var (pv 7)) (pda_nil))))))))))))) (px_one (px_s (pds_ret (pd_callT call_tupleD (by rfl) T.m_tuple (by decide +kernel) (pda_cons (pd_var (pv 3)) (pda_nil)))))))))
abbrev N_parents_read : List Str := ["parts", "first", "last", "found", "index", "parent"]
theorem sc_parents_read : FnScope N_parents_read ["parts", "first", "last"] (defScope s_parents_read) := ⟨rfl, rfl, rfl, by decide +kernel, rfl, by decide +kernel, by decide +kernel⟩
theorem ok_parents_read (T : Tx K mg) : FnOk P w K mg base (L2.CX P w) 3 T.f_parents_read T.fd_parents_read ["parts", "first", "last"] (spX K run_parents_read) :=
  okX T.F_parents_read sc_parents_read rfl (fun cdv A outer s H E hr =>
    px_cons (px_s (pds_own (i := 3) (ps_set (i := 3) sc_parents_read.nd rfl (.inl rfl) (pd_lst (pda_cons (pd_non) (pda_nil)))))) (px_cons (px_for (tg := .one 4) (passes_of rfl) rfl (pdi_rng2 (by rfl) T.m_range (pda_cons (pd_var (pv 1)) (pda_cons (pd_var (pv 2)) (pda_nil)))) (pg_name (i := 4) sc_parents_read.nd rfl (Or.inl rfl)) (px_cons (px_s (pds_set (i := 5) (ps_set (i := 5) sc_parents_read.nd rfl (.inl rfl) (pd_fn (ok_locale_read T) (hr.mono (by decide)) (by rfl) T.g_locale_read T.F_locale_read.kp T.b_locale_read pass0 (pda_cons (pd_ix (pd_var (pv 0)) (pd_var (pv 4))) (pda_cons (pd_callB call_lenD (by rfl) T.m_len PySem.boot_len (pda_cons (pd_var (pv 3)) (pda_nil))) (pda_nil))))))) (px_cons (px_if (px_t (PW.pt (pd_or (pd_cmpT op_isD (pd_var (pv 5)) (pd_non) (nomark _)) (pw_or1 (pd_cmpT (op_eqDD hr.units) (pd_callB call_lenD (by rfl) T.m_len PySem.boot_len (pda_cons (pd_var (pv 3)) (pda_nil))) (pd_int) (nomark _)))))) (px_one (px_raise rfl (takes_of rfl rfl rfl rfl) T.o_InvalidWords T.ii_InvalidWords T.ti_InvalidWords T.no_InvalidWords T.n_InvalidWords (ok_init_InvalidWords T) (hr.mono (by decide)) T.bi_InvalidWords (by rfl) T.gc_InvalidWords (pda_cons (pd_var (pv 4)) (pda_nil)))) (px_ss (pds_nil))) (px_one (px_s (pds_app (i := 3) (pv 3) (pd_var (pv 5)))))))) (px_one (px_s (pds_ret (pd_callT call_tupleD (by rfl) T.m_tuple (by decide +kernel) (pda_cons (pd_var (pv 3)) (pda_nil))))))))
abbrev N_rows_read : List Str := ["parts", "first", "count", "rows", "index", "row"]
theorem sc_rows_read : FnScope N_rows_read ["parts", "first", "count"] (defScope s_rows_read) := ⟨rfl, rfl, rfl, by decide +kernel, rfl, by decide +kernel, by decide +kernel⟩
theorem ok_rows_read (T : Tx K mg) : FnOk P w K mg base (L2.CX P w) 3 T.f_rows_read T.fd_rows_read ["parts", "first", "count"] (spX K run_rows_read) :=
  okX T.F_rows_read sc_rows_read rfl (fun cdv A outer s H E hr =>
    px_cons (px_s (pds_own (i := 3) (ps_set (i := 3) sc_rows_read.nd rfl (.inl rfl) (pd_lst (pda_nil))))) (px_cons (px_for (tg := .one 4) (passes_of rfl) rfl (pdi_rng2 (by rfl) T.m_range (pda_cons (pd_var (pv 1)) (pda_cons (pd_op op_addD (pd_var (pv 1)) (pd_var (pv 2))) (pda_nil)))) (pg_name (i := 4) sc_rows_read.nd rfl (Or.inl rfl)) (px_cons (px_if (px_t (pd_cmpT (op_eqDD hr.units) (pd_var (pv 4)) (pd_callB call_lenD (by rfl) T.m_len PySem.boot_len (pda_cons (pd_var (pv 0)) (pda_nil))) (nomark _))) (px_one (px_raise rfl (takes_of rfl rfl rfl rfl) T.o_InvalidWords T.ii_InvalidWords T.ti_InvalidWords T.no_InvalidWords T.n_InvalidWords (ok_init_InvalidWords T) (hr.mono (by decide)) T.bi_InvalidWords (by rfl) T.gc_InvalidWords (pda_cons (pd_var (pv 4)) (pda_nil)))) (px_ss (pds_nil))) (px_cons (px_s (pds_set (i := 5) (ps_set (i := 5) sc_rows_read.nd rfl (.inl rfl) (pd_fn (ok_row_read T) (hr.mono (by decide)) (by rfl) T.g_row_read T.F_row_read.kp T.b_row_read pass0 (pda_cons (pd_ix (pd_var (pv 0)) (pd_var (pv 4))) (pda_nil)))))) (px_cons (px_if (px_t (PW.pt (pd_or (pd_cmpT op_isD (pd_var (pv 5)) (pd_non) (nomark _)) (pw_or1 (PW.pt (pd_and (pd_cmpT (op_neDD hr.units) (pd_var (pv 3)) (pd_lst (pda_nil)) (nomark _)) (pw_and1 (pd_cmpT (op_neDD hr.units) (pd_callB call_lenD (by rfl) T.m_len PySem.boot_len (pda_cons (pd_var (pv 5)) (pda_nil))) (pd_callB call_lenD (by rfl) T.m_len PySem.boot_len (pda_cons (pd_ix (pd_var (pv 3)) (pd_int)) (pda_nil))) (nomark _))))))))) (px_one (px_raise rfl (takes_of rfl rfl rfl rfl) T.o_InvalidWords T.ii_InvalidWords T.ti_InvalidWords T.no_InvalidWords T.n_InvalidWords (ok_init_InvalidWords T) (hr.mono (by decide)) T.bi_InvalidWords (by rfl) T.gc_InvalidWords (pda_cons (pd_var (pv 4)) (pda_nil)))) (px_ss (pds_nil))) (px_one (px_s (pds_app (i := 3) (pv 3) (pd_var (pv 5))))))))) (px_cons (px_if (px_t (pd_cmpT op_gtD (pd_callB call_lenD (by rfl) T.m_len PySem.boot_len (pda_cons (pd_var (pv 0)) (pda_nil))) (pd_op op_addD (pd_var (pv 1)) (pd_var (pv 2))) (nomark _))) (px_one (px_raise rfl (takes_of rfl rfl rfl rfl) T.o_InvalidWords T.ii_InvalidWords T.ti_InvalidWords T.no_InvalidWords T.n_InvalidWords (ok_init_InvalidWords T) (hr.mono (by decide)) T.bi_InvalidWords (by rfl) T.gc_InvalidWords (pda_cons (pd_op op_addD (pd_var (pv 1)) (pd_var (pv 2))) (pda_nil)))) (px_ss (pds_nil))) (px_one (px_s (pds_ret (pd_callT call_tupleD (by rfl) T.m_tuple (by decide +kernel) (pda_cons (pd_var (pv 3)) (pda_nil)))))))))
abbrev N_read_wishes : List Str := ["tree", "words"]
theorem sc_read_wishes : FnScope N_read_wishes ["tree", "words"] (defScope s_read_wishes) := ⟨rfl, rfl, rfl, by decide +kernel, rfl, by decide +kernel, by decide +kernel⟩
theorem ok_read_wishes (T : Tx K mg) : FnOk P w K mg base (L2.CX P w) 5 T.f_read_wishes T.fd_read_wishes ["tree", "words"] (spX K run_read_wishes) :=
  okX T.F_read_wishes sc_read_wishes rfl (fun cdv A outer s H E hr =>
    px_cons (px_s (pds_drop (pd_fn (ok_need_tree T) (hr.mono (by decide)) (by rfl) T.g_need_tree T.F_need_tree.kp T.b_need_tree pass0 (pda_cons (pd_var (pv 0)) (pda_nil))))) (px_one (px_ret (px_fn (takes_of rfl rfl rfl rfl) (ok_locales_read T) (hr.mono (by decide)) (by rfl) T.g_locales_read T.F_locales_read.kp T.b_locales_read (pda_cons (pd_meth PySem.F.slot_str_split PySem.F.type_str_split mt_splitD (pd_var (pv 1)) (pda_cons (pd_str) (pda_nil))) (pda_cons (pd_int) (pda_cons (pd_callB call_lenD (by rfl) T.m_len PySem.boot_len (pda_cons (pd_var (pv 0)) (pda_nil))) (pda_cons (pd_bl) (pda_nil)))))))))
abbrev N_read_tree : List Str := ["words", "parts"]
theorem sc_read_tree : FnScope N_read_tree ["words"] (defScope s_read_tree) := ⟨rfl, rfl, rfl, by decide +kernel, rfl, by decide +kernel, by decide +kernel⟩
theorem ok_read_tree (T : Tx K mg) : FnOk P w K mg base (L2.CX P w) 4 T.f_read_tree T.fd_read_tree ["words"] (spX K run_read_tree) :=
  okX T.F_read_tree sc_read_tree rfl (fun cdv A outer s H E hr =>
    px_cons (px_s (pds_set (i := 1) (ps_set (i := 1) sc_read_tree.nd rfl (.inl rfl) (pd_meth PySem.F.slot_str_split PySem.F.type_str_split mt_splitD (pd_var (pv 0)) (pda_cons (pd_str) (pda_nil)))))) (px_cons (px_if (px_t (pd_cmpT (op_neDD hr.units) (pd_ix (pd_var (pv 1)) (pd_int)) (pd_str) (nomark _))) (px_one (px_raise rfl (takes_of rfl rfl rfl rfl) T.o_InvalidWords T.ii_InvalidWords T.ti_InvalidWords T.no_InvalidWords T.n_InvalidWords (ok_init_InvalidWords T) (hr.mono (by decide)) T.bi_InvalidWords (by rfl) T.gc_InvalidWords (pda_cons (pd_int) (pda_nil)))) (px_ss (pds_nil))) (px_one (px_ret (px_fn (takes_of rfl rfl rfl rfl) (ok_parents_read T) (hr.mono (by decide)) (by rfl) T.g_parents_read T.F_parents_read.kp T.b_parents_read (pda_cons (pd_var (pv 1)) (pda_cons (pd_int) (pda_cons (pd_callB call_lenD (by rfl) T.m_len PySem.boot_len (pda_cons (pd_var (pv 1)) (pda_nil))) (pda_nil)))))))))
abbrev N_read_catalog : List Str := ["words", "parts", "at", "tree"]
theorem sc_read_catalog : FnScope N_read_catalog ["words"] (defScope s_read_catalog) := ⟨rfl, rfl, rfl, by decide +kernel, rfl, by decide +kernel, by decide +kernel⟩
theorem ok_read_catalog (T : Tx K mg) : FnOk P w K mg base (L2.CX P w) 4 T.f_read_catalog T.fd_read_catalog ["words"] (spX K run_read_catalog) :=
  okX T.F_read_catalog sc_read_catalog rfl (fun cdv A outer s H E hr =>
    px_cons (px_s (pds_set (i := 1) (ps_set (i := 1) sc_read_catalog.nd rfl (.inl rfl) (pd_meth PySem.F.slot_str_split PySem.F.type_str_split mt_splitD (pd_var (pv 0)) (pda_cons (pd_str) (pda_nil)))))) (px_cons (px_if (px_t (pd_notT (pd_tru (pd_fn (ok_is_way T) (hr.mono (by decide)) (by rfl) T.g_is_way T.F_is_way.kp T.b_is_way pass0 (pda_cons (pd_ix (pd_var (pv 1)) (pd_int)) (pda_nil)))))) (px_one (px_raise rfl (takes_of rfl rfl rfl rfl) T.o_InvalidWords T.ii_InvalidWords T.ti_InvalidWords T.no_InvalidWords T.n_InvalidWords (ok_init_InvalidWords T) (hr.mono (by decide)) T.bi_InvalidWords (by rfl) T.gc_InvalidWords (pda_cons (pd_int) (pda_nil)))) (px_ss (pds_nil))) (px_cons (px_if (px_t (PW.pt (pd_or (pd_cmpT (op_eqDD hr.units) (pd_callB call_lenD (by rfl) T.m_len PySem.boot_len (pda_cons (pd_var (pv 1)) (pda_nil))) (pd_int) (nomark _)) (pw_or1 (pd_cmpT (op_neDD hr.units) (pd_ix (pd_var (pv 1)) (pd_int)) (pd_str) (nomark _)))))) (px_one (px_raise rfl (takes_of rfl rfl rfl rfl) T.o_InvalidWords T.ii_InvalidWords T.ti_InvalidWords T.no_InvalidWords T.n_InvalidWords (ok_init_InvalidWords T) (hr.mono (by decide)) T.bi_InvalidWords (by rfl) T.gc_InvalidWords (pda_cons (pd_int) (pda_nil)))) (px_ss (pds_nil))) (px_cons (px_s (pds_set (i := 2) (ps_set (i := 2) sc_read_catalog.nd rfl (.inl rfl) (pd_int)))) (px_cons (px_s (pds_while (n := FUEL) (passes_of rfl) (PW.pt (pd_and (pd_cmpT op_ltD (pd_var (pv 2)) (pd_callB call_lenD (by rfl) T.m_len PySem.boot_len (pda_cons (pd_var (pv 1)) (pda_nil))) (nomark _)) (pw_and1 (pd_cmpT (op_neDD hr.units) (pd_ix (pd_var (pv 1)) (pd_var (pv 2))) (pd_str) (nomark _))))) (pds_one (pds_augI (i := 2) (ps_aug (i := 2) sc_read_catalog.nd rfl (.inl rfl) (pd_int) ip_addO))))) (px_cons (px_set (i := 3) (ps_set (i := 3) sc_read_catalog.nd rfl (.inl rfl) (px_fn (takes_of rfl rfl rfl rfl) (ok_parents_read T) (hr.mono (by decide)) (by rfl) T.g_parents_read T.F_parents_read.kp T.b_parents_read (pda_cons (pd_var (pv 1)) (pda_cons (pd_int) (pda_cons (pd_var (pv 2)) (pda_nil))))))) (px_cons (px_if (px_t (pd_cmpT (op_eqDD hr.units) (pd_var (pv 2)) (pd_callB call_lenD (by rfl) T.m_len PySem.boot_len (pda_cons (pd_var (pv 1)) (pda_nil))) (nomark _))) (px_one (px_raise rfl (takes_of rfl rfl rfl rfl) T.o_InvalidWords T.ii_InvalidWords T.ti_InvalidWords T.no_InvalidWords T.n_InvalidWords (ok_init_InvalidWords T) (hr.mono (by decide)) T.bi_InvalidWords (by rfl) T.gc_InvalidWords (pda_cons (pd_var (pv 2)) (pda_nil)))) (px_ss (pds_nil))) (px_one (px_ret (px_tup (pxa_cons (px_e (pd_var (pv 3))) (pxa_cons (px_e (pd_ix (pd_var (pv 1)) (pd_int))) (pxa_cons (px_fn (takes_of rfl rfl rfl rfl) (ok_rows_read T) (hr.mono (by decide)) (by rfl) T.g_rows_read T.F_rows_read.kp T.b_rows_read (pda_cons (pd_var (pv 1)) (pda_cons (pd_op op_addD (pd_var (pv 2)) (pd_int)) (pda_cons (pd_callB call_lenD (by rfl) T.m_len PySem.boot_len (pda_cons (pd_var (pv 3)) (pda_nil))) (pda_nil))))) (pxa_nil))))))))))))))
abbrev N_read_door : List Str := ["tree", "words", "parts", "word"]
theorem sc_read_door : FnScope N_read_door ["tree", "words"] (defScope s_read_door) := ⟨rfl, rfl, rfl, by decide +kernel, rfl, by decide +kernel, by decide +kernel⟩
theorem ok_read_door (T : Tx K mg) : FnOk P w K mg base (L2.CX P w) 5 T.f_read_door T.fd_read_door ["tree", "words"] (spX K run_read_door) :=
  okX T.F_read_door sc_read_door rfl (fun cdv A outer s H E hr =>
    px_cons (px_s (pds_drop (pd_fn (ok_need_tree T) (hr.mono (by decide)) (by rfl) T.g_need_tree T.F_need_tree.kp T.b_need_tree pass0 (pda_cons (pd_var (pv 0)) (pda_nil))))) (px_cons (px_s (pds_set (i := 2) (ps_set (i := 2) sc_read_door.nd rfl (.inl rfl) (pd_meth PySem.F.slot_str_split PySem.F.type_str_split mt_splitD (pd_var (pv 1)) (pda_cons (pd_str) (pda_nil)))))) (px_cons (px_s (pds_set (i := 3) (ps_set (i := 3) sc_read_door.nd rfl (.inl rfl) (pd_ix (pd_var (pv 2)) (pd_int))))) (px_cons (px_if (px_t (pd_cmpT (op_eqDD hr.units) (pd_var (pv 3)) (pd_str) (nomark _))) (px_one (px_ret (px_tup (pxa_cons (px_e (pd_var (pv 3))) (pxa_cons (px_fn (takes_of rfl rfl rfl rfl) (ok_pairs_read T) (hr.mono (by decide)) (by rfl) T.g_pairs_read T.F_pairs_read.kp T.b_pairs_read (pda_cons (pd_var (pv 2)) (pda_cons (pd_int) (pda_cons (pd_callB call_lenD (by rfl) T.m_len PySem.boot_len (pda_cons (pd_var (pv 0)) (pda_nil))) (pda_nil))))) (pxa_nil)))))) (px_ss (pds_nil))) (px_cons (px_if (px_t (pd_cmpT op_inD (pd_var (pv 3)) (pd_tup (pda_cons (pd_str) (pda_cons (pd_str) (pda_cons (pd_str) (pda_cons (pd_str) (pda_nil)))))) (by rfl))) (px_one (px_ret (px_tup (pxa_cons (px_e (pd_var (pv 3))) (pxa_cons (px_fn (takes_of rfl rfl rfl rfl) (ok_locales_read T) (hr.mono (by decide)) (by rfl) T.g_locales_read T.F_locales_read.kp T.b_locales_read (pda_cons (pd_var (pv 2)) (pda_cons (pd_int) (pda_cons (pd_callB call_lenD (by rfl) T.m_len PySem.boot_len (pda_cons (pd_var (pv 0)) (pda_nil))) (pda_cons (pd_cmp op_inD (pd_var (pv 3)) (pd_tup (pda_cons (pd_str) (pda_cons (pd_str) (pda_nil)))) (by rfl)) (pda_nil)))))) (pxa_nil)))))) (px_ss (pds_nil))) (px_one (px_raise rfl (takes_of rfl rfl rfl rfl) T.o_InvalidWords T.ii_InvalidWords T.ti_InvalidWords T.no_InvalidWords T.n_InvalidWords (ok_init_InvalidWords T) (hr.mono (by decide)) T.bi_InvalidWords (by rfl) T.gc_InvalidWords (pda_cons (pd_int) (pda_nil)))))))))
abbrev N__law_pull : List Str := ["jar", "size", "digit", "stir"]
theorem sc__law_pull : FnScope N__law_pull ["jar", "size"] (defScope s__law_pull) := ⟨rfl, rfl, rfl, by decide +kernel, rfl, by decide +kernel, by decide +kernel⟩
theorem ok__law_pull (T : Tx K mg) : FnOk P w K mg base CX0 1 T.f__law_pull T.fd__law_pull ["jar", "size"] (spJ K run__law_pull) :=
  okJ T.F__law_pull sc__law_pull rfl (fun cdv A outer s H E hr =>
    pds_cons (pds_if (pd_cmpT op_gtD (pd_ix (pd_var (pv 0)) (pd_int)) (pd_int) (nomark _)) (pds_cons (pds_set (i := 2) (ps_set (i := 2) sc__law_pull.nd rfl (.inl rfl) (pd_op op_modD (pd_callT call_intD (by rfl) T.m_int (by decide +kernel) (pda_cons (pd_ix (pd_var (pv 0)) (pd_int)) (pda_nil))) (pd_var (pv 1))))) (pds_cons (pds_put (pd_var (pv 0)) (pd_int) (pd_op op_fdivD (pd_ix (pd_var (pv 0)) (pd_int)) (pd_var (pv 1)))) (pds_one (pds_ret (pd_var (pv 2)))))) (pds_nil)) (pds_cons (pds_put (pd_var (pv 0)) (pd_int) (pd_op op_addD (pd_ix (pd_var (pv 0)) (pd_int)) (pd_int))) (pds_cons (pds_set (i := 3) (ps_set (i := 3) sc__law_pull.nd rfl (.inl rfl) (pd_op op_modD (pd_callT call_intD (by rfl) T.m_int (by decide +kernel) (pda_cons (pd_op op_addD (pd_op op_addD (pd_ix (pd_var (pv 0)) (pd_int)) (pd_op op_mulD (pd_op op_mulD (pd_int) (pd_ix (pd_var (pv 0)) (pd_int))) (pd_ix (pd_var (pv 0)) (pd_int)))) (pd_op op_mulD (pd_int) (pd_ix (pd_var (pv 0)) (pd_int)))) (pda_nil))) (pd_int)))) (pds_cons (pds_set (i := 3) (ps_set (i := 3) sc__law_pull.nd rfl (.inl rfl) (pd_op op_modD (pd_callT call_intD (by rfl) T.m_int (by decide +kernel) (pda_cons (pd_op op_addD (pd_op op_addD (pd_op op_mulD (pd_var (pv 3)) (pd_var (pv 3))) (pd_op op_mulD (pd_int) (pd_ix (pd_var (pv 0)) (pd_int)))) (pd_int)) (pda_nil))) (pd_int)))) (pds_cons (pds_set (i := 3) (ps_set (i := 3) sc__law_pull.nd rfl (.inl rfl) (pd_op op_modD (pd_callT call_intD (by rfl) T.m_int (by decide +kernel) (pda_cons (pd_op op_mulD (pd_var (pv 3)) (pd_var (pv 3))) (pda_nil))) (pd_int)))) (pds_one (pds_ret (pd_op op_modD (pd_callT call_intD (by rfl) T.m_int (by decide +kernel) (pda_cons (pd_op op_fdivD (pd_var (pv 3)) (pd_int)) (pda_nil))) (pd_var (pv 1))))))))))
abbrev N__law_other_word : List Str := ["jar", "word", "turn", "at", "sign", "some"]
theorem sc__law_other_word : FnScope N__law_other_word ["jar", "word"] (defScope s__law_other_word) := ⟨rfl, rfl, rfl, by decide +kernel, rfl, by decide +kernel, by decide +kernel⟩
theorem ok__law_other_word (T : Tx K mg) : FnOk P w K mg base CX0 2 T.f__law_other_word T.fd__law_other_word ["jar", "word"] (spJ K run__law_other_word) :=
  okJ T.F__law_other_word sc__law_other_word rfl (fun cdv A outer s H E hr =>
    pds_cons (pds_set (i := 2) (ps_set (i := 2) sc__law_other_word.nd rfl (.inl rfl) (pd_fnJ (ok__law_pull T) (hr.mono (by decide)) (by rfl) T.g__law_pull T.F__law_pull.kp T.b__law_pull pass0 (pda_cons (pd_var (pv 0)) (pda_cons (pd_int) (pda_nil)))))) (pds_cons (pds_set (i := 3) (ps_set (i := 3) sc__law_other_word.nd rfl (.inl rfl) (pd_fnJ (ok__law_pull T) (hr.mono (by decide)) (by rfl) T.g__law_pull T.F__law_pull.kp T.b__law_pull pass0 (pda_cons (pd_var (pv 0)) (pda_cons (pd_op op_addD (pd_callB call_lenD (by rfl) T.m_len PySem.boot_len (pda_cons (pd_var (pv 1)) (pda_nil))) (pd_int)) (pda_nil)))))) (pds_cons (pds_set (i := 4) (ps_set (i := 4) sc__law_other_word.nd rfl (.inl rfl) (pd_ix (pd_str) (pd_fnJ (ok__law_pull T) (hr.mono (by decide)) (by rfl) T.g__law_pull T.F__law_pull.kp T.b__law_pull pass0 (pda_cons (pd_var (pv 0)) (pda_cons (pd_int) (pda_nil))))))) (pds_cons (pds_if (pd_cmpT (op_eqDD hr.units) (pd_var (pv 2)) (pd_int) (nomark _)) (pds_one (pds_ret (pd_op op_addD (pd_op op_addD (pd_slice (pd_var (pv 1)) (po_no) (po_part (pd_var (pv 3)))) (pd_var (pv 4))) (pd_slice (pd_var (pv 1)) (po_part (pd_var (pv 3))) (po_no))))) (pds_nil)) (pds_cons (pds_if (pd_cmpT (op_eqDD hr.units) (pd_var (pv 2)) (pd_int) (nomark _)) (pds_one (pds_ret (pd_op op_addD (pd_slice (pd_var (pv 1)) (po_no) (po_part (pd_var (pv 3)))) (pd_slice (pd_var (pv 1)) (po_part (pd_op op_addD (pd_var (pv 3)) (pd_int))) (po_no))))) (pds_nil)) (pds_cons (pds_if (pd_cmpT (op_eqDD hr.units) (pd_var (pv 2)) (pd_int) (nomark _)) (pds_one (pds_ret (pd_op op_addD (pd_op op_addD (pd_slice (pd_var (pv 1)) (po_no) (po_part (pd_var (pv 3)))) (pd_var (pv 4))) (pd_slice (pd_var (pv 1)) (po_part (pd_op op_addD (pd_var (pv 3)) (pd_int))) (po_no))))) (pds_nil)) (pds_cons (pds_if (pd_cmpT (op_eqDD hr.units) (pd_var (pv 2)) (pd_int) (nomark _)) (pds_one (pds_ret (pd_var (pv 4)))) (pds_nil)) (pds_cons (pds_set (i := 5) (ps_set (i := 5) sc__law_other_word.nd rfl (.inl rfl) (pd_lst (pda_cons (pd_str) (pda_cons (pd_str) (pda_cons (pd_str) (pda_cons (pd_str) (pda_cons (pd_str) (pda_cons (pd_str) (pda_cons (pd_str) (pda_cons (pd_str) (pda_cons (pd_str) (pda_cons (pd_str) (pda_cons (pd_str) (pda_cons (pd_str) (pda_cons (pd_str) (pda_cons (pd_str) (pda_cons (pd_str) (pda_cons (pd_str) (pda_nil)))))))))))))))))))) (pds_cons (pds_set (i := 5) (ps_set (i := 5) sc__law_other_word.nd rfl (.inl rfl) (pd_op op_addD (pd_var (pv 5)) (pd_lst (pda_cons (pd_str) (pda_cons (pd_str) (pda_cons (pd_str) (pda_cons (pd_str) (pda_cons (pd_str) (pda_cons (pd_str) (pda_cons (pd_str) (pda_cons (pd_str) (pda_cons (pd_str) (pda_cons (pd_str) (pda_cons (pd_str) (pda_cons (pd_str) (pda_cons (pd_str) (pda_nil)))))))))))))))))) (pds_one (pds_ret (pd_ix (pd_var (pv 5)) (pd_fnJ (ok__law_pull T) (hr.mono (by decide)) (by rfl) T.g__law_pull T.F__law_pull.kp T.b__law_pull pass0 (pda_cons (pd_var (pv 0)) (pda_cons (pd_int) (pda_nil))))))))))))))))
abbrev N__law_letters : List Str := ["spots", "spot"]
theorem sc__law_letters : FnScope N__law_letters ["spots"] (defScope s__law_letters) := ⟨rfl, rfl, rfl, by decide +kernel, rfl, by decide +kernel, by decide +kernel⟩
theorem ok__law_letters (T : Tx K mg) : FnOk P w K mg base CX0 1 T.f__law_letters T.fd__law_letters ["spots"] (spD K run__law_letters) :=
  okD T.F__law_letters sc__law_letters rfl (fun cdv A outer s H E hr =>
    pds_cons (pds_if (pd_cmpT (op_eqDD hr.units) (pd_callT call_listD (by rfl) T.m_list (by decide +kernel) (pda_cons (pd_var (pv 0)) (pda_nil))) (pd_lst (pda_nil)) (nomark _)) (pds_one (pds_ret (pd_str))) (pds_nil)) (pds_one (pds_ret (pd_meth PySem.F.slot_str_join PySem.F.type_str_join mt_joinD (pd_str) (pda_cons (pd_lc (own := [("spot", 1)]) (tg := .one 1) rfl sc__law_letters.nd (by simp [tgOwn]) (pdi_seq (pd_var (pv 0))) (blkOk_by (N := N__law_letters) (sc := defScope s__law_letters) (own := [("spot", 1)]) (by decide +kernel)) (fun _ _ _ _ _ => pg_name (i := 1) sc__law_letters.nd rfl (Or.inl rfl)) (fun _ _ _ _ _ => pdts_nil) (fun _ _ _ _ _ => pd_ix (pd_str) (pd_var (pv 1)))) (pda_nil))))))
abbrev N__law_up : List Str := ["world", "spot", "steps"]
theorem sc__law_up : FnScope N__law_up ["world", "spot"] (defScope s__law_up) := ⟨rfl, rfl, rfl, by decide +kernel, rfl, by decide +kernel, by decide +kernel⟩
theorem ok__law_up (T : Tx K mg) : FnOk P w K mg base CX0 1 T.f__law_up T.fd__law_up ["world", "spot"] (spD K run__law_up) :=
  okD T.F__law_up sc__law_up rfl (fun cdv A outer s H E hr =>
    pds_cons (pds_own (i := 2) (ps_set (i := 2) sc__law_up.nd rfl (.inl rfl) (pd_lst (pda_cons (pd_var (pv 1)) (pda_nil))))) (pds_cons (pds_while (n := FUEL) PassesOwn.never (PW.pt (pd_and (pd_cmpT op_isntD (pd_ix (pd_var (pv 0)) (pd_ix (pd_var (pv 2)) (pd_neg (pd_int)))) (pd_non) (nomark _)) (pw_and1 (pd_cmpT op_gtD (pd_ix (pd_var (pv 0)) (pd_ix (pd_var (pv 2)) (pd_neg (pd_int)))) (pd_int) (nomark _))))) (pds_one (pds_app (i := 2) (pv 2) (pd_ix (pd_var (pv 0)) (pd_ix (pd_var (pv 2)) (pd_neg (pd_int))))))) (pds_one (pds_ret (pd_var (pv 2))))))
abbrev N__law_some_asks : List Str := ["jar", "world", "reach", "many", "asks", "k", "turn", "spot", "steps"]
theorem sc__law_some_asks : FnScope N__law_some_asks ["jar", "world", "reach"] (defScope s__law_some_asks) := ⟨rfl, rfl, rfl, by decide +kernel, rfl, by decide +kernel, by decide +kernel⟩
theorem ok__law_some_asks (T : Tx K mg) : FnOk P w K mg base CX0 2 T.f__law_some_asks T.fd__law_some_asks ["jar", "world", "reach"] (spJ K run__law_some_asks) :=
  okJ T.F__law_some_asks sc__law_some_asks rfl (fun cdv A outer s H E hr =>
    pds_cons (pds_set (i := 3) (ps_set (i := 3) sc__law_some_asks.nd rfl (.inl rfl) (pd_callB (call_minD rfl) (by rfl) T.m_min (by decide +kernel) (pda_cons (pd_var (pv 2)) (pda_cons (pd_ix (pd_lst (pda_cons (pd_int) (pda_cons (pd_int) (pda_cons (pd_int) (pda_cons (pd_int) (pda_cons (pd_int) (pda_cons (pd_int) (pda_cons (pd_op op_fdivD (pd_var (pv 2)) (pd_int)) (pda_cons (pd_var (pv 2)) (pda_nil)))))))))) (pd_fnJ (ok__law_pull T) (hr.mono (by decide)) (by rfl) T.g__law_pull T.F__law_pull.kp T.b__law_pull pass0 (pda_cons (pd_var (pv 0)) (pda_cons (pd_int) (pda_nil))))) (pda_nil)))))) (pds_cons (pds_set (i := 4) (ps_set (i := 4) sc__law_some_asks.nd rfl (.inl rfl) (pd_tup (pda_nil)))) (pds_cons (pds_for (tg := .one 5) PassesOwn.never rfl (pdi_rng1 (by rfl) T.m_range (pda_cons (pd_var (pv 3)) (pda_nil))) (pg_name (i := 5) sc__law_some_asks.nd rfl (Or.inl rfl)) (pds_cons (pds_set (i := 6) (ps_set (i := 6) sc__law_some_asks.nd rfl (.inl rfl) (pd_fnJ (ok__law_pull T) (hr.mono (by decide)) (by rfl) T.g__law_pull T.F__law_pull.kp T.b__law_pull pass0 (pda_cons (pd_var (pv 0)) (pda_cons (pd_int) (pda_nil)))))) (pds_cons (pds_set (i := 7) (ps_set (i := 7) sc__law_some_asks.nd rfl (.inl rfl) (pd_int))) (pds_cons (pds_if (pd_cmpT op_gtD (pd_var (pv 6)) (pd_int) (nomark _)) (pds_one (pds_set (i := 7) (ps_set (i := 7) sc__law_some_asks.nd rfl (.inl rfl) (pd_fnJ (ok__law_pull T) (hr.mono (by decide)) (by rfl) T.g__law_pull T.F__law_pull.kp T.b__law_pull pass0 (pda_cons (pd_var (pv 0)) (pda_cons (pd_callB call_lenD (by rfl) T.m_len PySem.boot_len (pda_cons (pd_var (pv 1)) (pda_nil))) (pda_nil))))))) (pds_nil)) (pds_cons (pds_if (PW.pt (pd_and (pd_cmpT op_gtD (pd_var (pv 6)) (pd_int) (nomark _)) (pw_and1 (pd_cmpT (op_neDD hr.units) (pd_var (pv 4)) (pd_tup (pda_nil)) (nomark _))))) (pds_cons (pds_set (i := 8) (ps_set (i := 8) sc__law_some_asks.nd rfl (.inl rfl) (pd_fn (ok__law_up T) (hr.mono (by decide)) (by rfl) T.g__law_up T.F__law_up.kp T.b__law_up pass0 (pda_cons (pd_var (pv 1)) (pda_cons (pd_ix (pd_var (pv 4)) (pd_fnJ (ok__law_pull T) (hr.mono (by decide)) (by rfl) T.g__law_pull T.F__law_pull.kp T.b__law_pull pass0 (pda_cons (pd_var (pv 0)) (pda_cons (pd_callB call_lenD (by rfl) T.m_len PySem.boot_len (pda_cons (pd_var (pv 4)) (pda_nil))) (pda_nil))))) (pda_nil)))))) (pds_one (pds_set (i := 7) (ps_set (i := 7) sc__law_some_asks.nd rfl (.inl rfl) (pd_ix (pd_var (pv 8)) (pd_fnJ (ok__law_pull T) (hr.mono (by decide)) (by rfl) T.g__law_pull T.F__law_pull.kp T.b__law_pull pass0 (pda_cons (pd_var (pv 0)) (pda_cons (pd_callB call_lenD (by rfl) T.m_len PySem.boot_len (pda_cons (pd_var (pv 8)) (pda_nil))) (pda_nil))))))))) (pds_nil)) (pds_one (pds_set (i := 4) (ps_set (i := 4) sc__law_some_asks.nd rfl (.inl rfl) (pd_op op_addD (pd_var (pv 4)) (pd_tup (pda_cons (pd_var (pv 7)) (pda_nil)))))))))))) (pds_one (pds_ret (pd_var (pv 4)))))))
abbrev N__law_world_words : List Str := ["world", "up"]
theorem sc__law_world_words : FnScope N__law_world_words ["world"] (defScope s__law_world_words) := ⟨rfl, rfl, rfl, by decide +kernel, rfl, by decide +kernel, by decide +kernel⟩
theorem ok__law_world_words (T : Tx K mg) : FnOk P w K mg base CX0 1 T.f__law_world_words T.fd__law_world_words ["world"] (spD K run__law_world_words) :=
  okD T.F__law_world_words sc__law_world_words rfl (fun cdv A outer s H E hr =>
    pds_one (pds_ret (pd_meth PySem.F.slot_str_join PySem.F.type_str_join mt_joinD (pd_str) (pda_cons (pd_op op_addD (pd_lst (pda_cons (pd_str) (pda_nil))) (pd_lc (own := [("up", 1)]) (tg := .one 1) rfl sc__law_world_words.nd (by simp [tgOwn]) (pdi_seq (pd_slice (pd_var (pv 0)) (po_part (pd_int)) (po_no))) (blkOk_by (N := N__law_world_words) (sc := defScope s__law_world_words) (own := [("up", 1)]) (by decide +kernel)) (fun _ _ _ _ _ => pg_name (i := 1) sc__law_world_words.nd rfl (Or.inl rfl)) (fun _ _ _ _ _ => pdts_nil) (fun _ _ _ _ _ => pd_ix (pd_str) (pd_var (pv 1))))) (pda_nil)))))
abbrev N__law_word_of : List Str := ["row", "sign"]
theorem sc__law_word_of : FnScope N__law_word_of ["row"] (defScope s__law_word_of) := ⟨rfl, rfl, rfl, by decide +kernel, rfl, by decide +kernel, by decide +kernel⟩
theorem ok__law_word_of (T : Tx K mg) : FnOk P w K mg base CX0 1 T.f__law_word_of T.fd__law_word_of ["row"] (spD K run__law_word_of) :=
  okD T.F__law_word_of sc__law_word_of rfl (fun cdv A outer s H E hr =>
    pds_one (pds_ret (pd_meth PySem.F.slot_str_join PySem.F.type_str_join mt_joinD (pd_str) (pda_cons (pd_lc (own := [("sign", 1)]) (tg := .one 1) rfl sc__law_word_of.nd (by simp [tgOwn]) (pdi_seq (pd_var (pv 0))) (blkOk_by (N := N__law_word_of) (sc := defScope s__law_word_of) (own := [("sign", 1)]) (by decide +kernel)) (fun _ _ _ _ _ => pg_name (i := 1) sc__law_word_of.nd rfl (Or.inl rfl)) (fun _ _ _ _ _ => pdts_nil) (fun _ _ _ _ _ => pd_ix (pd_lst (pda_cons (pd_str) (pda_cons (pd_callT call_strND (by rfl) T.m_str (by decide +kernel) (pda_cons (pd_var (pv 1)) (pda_nil))) (pda_nil)))) (pd_callT call_intD (by rfl) T.m_int (by decide +kernel) (pda_cons (pd_cmp op_isntD (pd_var (pv 1)) (pd_non) (nomark _)) (pda_nil))))) (pda_nil)))))
abbrev N__law_book_words : List Str := ["book", "row"]
theorem sc__law_book_words : FnScope N__law_book_words ["book"] (defScope s__law_book_words) := ⟨rfl, rfl, rfl, by decide +kernel, rfl, by decide +kernel, by decide +kernel⟩
theorem ok__law_book_words (T : Tx K mg) : FnOk P w K mg base CX0 2 T.f__law_book_words T.fd__law_book_words ["book"] (spD K run__law_book_words) :=
  okD T.F__law_book_words sc__law_book_words rfl (fun cdv A outer s H E hr =>
    pds_one (pds_ret (pd_meth PySem.F.slot_str_join PySem.F.type_str_join mt_joinD (pd_str) (pda_cons (pd_op op_addD (pd_lst (pda_cons (pd_ix (pd_var (pv 0)) (pd_int)) (pda_cons (pd_fn (ok__law_world_words T) (hr.mono (by decide)) (by rfl) T.g__law_world_words T.F__law_world_words.kp T.b__law_world_words pass0 (pda_cons (pd_ix (pd_var (pv 0)) (pd_int)) (pda_nil))) (pda_cons (pd_str) (pda_nil))))) (pd_lc (own := [("row", 1)]) (tg := .one 1) rfl sc__law_book_words.nd (by simp [tgOwn]) (pdi_seq (pd_ix (pd_var (pv 0)) (pd_int))) (blkOk_by (N := N__law_book_words) (sc := defScope s__law_book_words) (own := [("row", 1)]) (by decide +kernel)) (fun _ _ _ _ _ => pg_name (i := 1) sc__law_book_words.nd rfl (Or.inl rfl)) (fun _ _ _ _ _ => pdts_nil) (fun _ _ _ _ _ => pd_fn (ok__law_word_of T) (hr.mono (by decide)) (by rfl) T.g__law_word_of T.F__law_word_of.kp T.b__law_word_of pass0 (pda_cons (pd_var (pv 1)) (pda_nil))))) (pda_nil)))))
abbrev N__law_some_book : List Str := ["jar", "world", "mode", "slots", "fill", "signs", "least_one", "rows", "spot", "row", "slot", "sign"]
theorem sc__law_some_book : FnScope N__law_some_book ["jar", "world", "mode", "slots"] (defScope s__law_some_book) := ⟨rfl, rfl, rfl, by decide +kernel, rfl, by decide +kernel, by decide +kernel⟩
theorem ok__law_some_book (T : Tx K mg) : FnOk P w K mg base CX0 2 T.f__law_some_book T.fd__law_some_book ["jar", "world", "mode", "slots"] (spJ K run__law_some_book) :=
  okJ T.F__law_some_book sc__law_some_book rfl (fun cdv A outer s H E hr =>
    pds_cons (pds_set (i := 4) (ps_set (i := 4) sc__law_some_book.nd rfl (.inl rfl) (pd_fnJ (ok__law_pull T) (hr.mono (by decide)) (by rfl) T.g__law_pull T.F__law_pull.kp T.b__law_pull pass0 (pda_cons (pd_var (pv 0)) (pda_cons (pd_int) (pda_nil)))))) (pds_cons (pds_set (i := 5) (ps_set (i := 5) sc__law_some_book.nd rfl (.inl rfl) (pd_ix (pd_lst (pda_cons (pd_int) (pda_cons (pd_int) (pda_cons (pd_int) (pda_cons (pd_int) (pda_nil)))))) (pd_fnJ (ok__law_pull T) (hr.mono (by decide)) (by rfl) T.g__law_pull T.F__law_pull.kp T.b__law_pull pass0 (pda_cons (pd_var (pv 0)) (pda_cons (pd_int) (pda_nil))))))) (pds_cons (pds_set (i := 6) (ps_set (i := 6) sc__law_some_book.nd rfl (.inl rfl) (pd_fnJ (ok__law_pull T) (hr.mono (by decide)) (by rfl) T.g__law_pull T.F__law_pull.kp T.b__law_pull pass0 (pda_cons (pd_var (pv 0)) (pda_cons (pd_int) (pda_nil)))))) (pds_cons (pds_own (i := 7) (ps_set (i := 7) sc__law_some_book.nd rfl (.inl rfl) (pd_lst (pda_nil)))) (pds_cons (pds_for (tg := .one 8) PassesOwn.never rfl (pdi_rng1 (by rfl) T.m_range (pda_cons (pd_callB call_lenD (by rfl) T.m_len PySem.boot_len (pda_cons (pd_var (pv 1)) (pda_nil))) (pda_nil))) (pg_name (i := 8) sc__law_some_book.nd rfl (Or.inl rfl)) (pds_cons (pds_own (i := 9) (ps_set (i := 9) sc__law_some_book.nd rfl (.inl rfl) (pd_lst (pda_nil)))) (pds_cons (pds_for (tg := .one 10) PassesOwn.never rfl (pdi_rng1 (by rfl) T.m_range (pda_cons (pd_var (pv 3)) (pda_nil))) (pg_name (i := 10) sc__law_some_book.nd rfl (Or.inl rfl)) (pds_cons (pds_set (i := 11) (ps_set (i := 11) sc__law_some_book.nd rfl (.inl rfl) (pd_non))) (pds_cons (pds_if (pd_cmpT op_ltD (pd_fnJ (ok__law_pull T) (hr.mono (by decide)) (by rfl) T.g__law_pull T.F__law_pull.kp T.b__law_pull pass0 (pda_cons (pd_var (pv 0)) (pda_cons (pd_int) (pda_nil)))) (pd_ix (pd_lst (pda_cons (pd_int) (pda_cons (pd_int) (pda_cons (pd_int) (pda_cons (pd_int) (pda_cons (pd_int) (pda_cons (pd_int) (pda_cons (pd_int) (pda_cons (pd_int) (pda_nil)))))))))) (pd_var (pv 4))) (nomark _)) (pds_cons (pds_set (i := 11) (ps_set (i := 11) sc__law_some_book.nd rfl (.inl rfl) (pd_op op_modD (pd_callT call_intD (by rfl) T.m_int (by decide +kernel) (pda_cons (pd_op op_addD (pd_var (pv 6)) (pd_op op_mulD (pd_fnJ (ok__law_pull T) (hr.mono (by decide)) (by rfl) T.g__law_pull T.F__law_pull.kp T.b__law_pull pass0 (pda_cons (pd_var (pv 0)) (pda_cons (pd_var (pv 5)) (pda_nil)))) (pd_callT call_intD (by rfl) T.m_int (by decide +kernel) (pda_cons (pd_cmp (op_neDD hr.units) (pd_var (pv 4)) (pd_int) (nomark _)) (pda_nil))))) (pda_nil))) (pd_int)))) (pds_one (pds_if (PW.pt (pd_and (pd_cmpT op_gtD (pd_var (pv 4)) (pd_int) (nomark _)) (pd_and (pd_cmpT op_gtD (pd_var (pv 8)) (pd_int) (nomark _)) (pw_and1 (pd_cmpT (op_eqDD hr.units) (pd_fnJ (ok__law_pull T) (hr.mono (by decide)) (by rfl) T.g__law_pull T.F__law_pull.kp T.b__law_pull pass0 (pda_cons (pd_var (pv 0)) (pda_cons (pd_int) (pda_nil)))) (pd_int) (nomark _)))))) (pds_one (pds_set (i := 11) (ps_set (i := 11) sc__law_some_book.nd rfl (.inl rfl) (pd_ix (pd_ix (pd_var (pv 7)) (pd_ix (pd_lst (pda_cons (pd_ix (pd_var (pv 1)) (pd_var (pv 8))) (pda_cons (pd_int) (pda_nil)))) (pd_fnJ (ok__law_pull T) (hr.mono (by decide)) (by rfl) T.g__law_pull T.F__law_pull.kp T.b__law_pull pass0 (pda_cons (pd_var (pv 0)) (pda_cons (pd_int) (pda_nil)))))) (pd_var (pv 10)))))) (pds_nil)))) (pds_nil)) (pds_one (pds_app (i := 9) (pv 9) (pd_var (pv 11))))))) (pds_cons (pds_app (i := 7) (pv 7) (pd_callT call_tupleD (by rfl) T.m_tuple (by decide +kernel) (pda_cons (pd_var (pv 9)) (pda_nil)))) (pds_cons (pds_if (PW.pt (pd_and (pd_cmpT (op_eqDD hr.units) (pd_var (pv 8)) (pd_int) (nomark _)) (pw_and1 (pd_cmpT (op_eqDD hr.units) (pd_var (pv 4)) (pd_int) (nomark _))))) (pds_one (pds_own (i := 7) (ps_set (i := 7) sc__law_some_book.nd rfl (.inl rfl) (pd_lst (pda_cons (pd_op op_mulTD (pd_tup (pda_cons (pd_non) (pda_nil))) (pd_var (pv 3))) (pda_nil)))))) (pds_nil)) (pds_one (pds_if (PW.pt (pd_and (pd_cmpT (op_eqDD hr.units) (pd_var (pv 8)) (pd_int) (nomark _)) (pw_and1 (pd_cmpT (op_eqDD hr.units) (pd_var (pv 4)) (pd_int) (nomark _))))) (pds_one (pds_own (i := 7) (ps_set (i := 7) sc__law_some_book.nd rfl (.inl rfl) (pd_lst (pda_cons (pd_op op_mulTD (pd_tup (pda_cons (pd_var (pv 6)) (pda_nil))) (pd_var (pv 3))) (pda_nil)))))) (pds_nil)))))))) (pds_one (pds_ret (pd_tup (pda_cons (pd_var (pv 1)) (pda_cons (pd_var (pv 2)) (pda_cons (pd_callT call_tupleD (by rfl) T.m_tuple (by decide +kernel) (pda_cons (pd_var (pv 7)) (pda_nil))) (pda_nil))))))))))))
abbrev N__law_some_mode : List Str := ["jar"]
theorem sc__law_some_mode : FnScope N__law_some_mode ["jar"] (defScope s__law_some_mode) := ⟨rfl, rfl, rfl, by decide +kernel, rfl, by decide +kernel, by decide +kernel⟩
theorem ok__law_some_mode (T : Tx K mg) : FnOk P w K mg base CX0 2 T.f__law_some_mode T.fd__law_some_mode ["jar"] (spJ K run__law_some_mode) :=
  okJ T.F__law_some_mode sc__law_some_mode rfl (fun cdv A outer s H E hr =>
    pds_one (pds_ret (pd_ix (pd_lst (pda_cons (pd_str) (pda_cons (pd_str) (pda_nil)))) (pd_fnJ (ok__law_pull T) (hr.mono (by decide)) (by rfl) T.g__law_pull T.F__law_pull.kp T.b__law_pull pass0 (pda_cons (pd_var (pv 0)) (pda_cons (pd_int) (pda_nil)))))))
abbrev N__law_door_words : List Str := ["gate", "spot", "one", "other"]
theorem sc__law_door_words : FnScope N__law_door_words ["gate"] (defScope s__law_door_words) := ⟨rfl, rfl, rfl, by decide +kernel, rfl, by decide +kernel, by decide +kernel⟩
theorem ok__law_door_words (T : Tx K mg) : FnOk P w K mg base CX0 2 T.f__law_door_words T.fd__law_door_words ["gate"] (spD K run__law_door_words) :=
  okD T.F__law_door_words sc__law_door_words rfl (fun cdv A outer s H E hr =>
    pds_cons (pds_if (PW.pt (pd_or (pd_cmpT (op_neDD hr.units) (pd_ix (pd_var (pv 0)) (pd_int)) (pd_str) (nomark _)) (pw_or1 (pd_cmpT (op_eqDD hr.units) (pd_ix (pd_var (pv 0)) (pd_int)) (pd_tup (pda_nil)) (nomark _))))) (pds_one (pds_ret (pd_op op_addD (pd_op op_addD (pd_ix (pd_var (pv 0)) (pd_int)) (pd_str)) (pd_fn (ok__law_letters T) (hr.mono (by decide)) (by rfl) T.g__law_letters T.F__law_letters.kp T.b__law_letters pass0 (pda_cons (pd_lc (own := [("spot", 1)]) (tg := .one 1) rfl sc__law_door_words.nd (by simp [tgOwn]) (pdi_seq (pd_ix (pd_var (pv 0)) (pd_int))) (blkOk_by (N := N__law_door_words) (sc := defScope s__law_door_words) (own := [("spot", 1)]) (by decide +kernel)) (fun _ _ _ _ _ => pg_name (i := 1) sc__law_door_words.nd rfl (Or.inl rfl)) (fun _ _ _ _ _ => pdts_nil) (fun _ _ _ _ _ => pd_var (pv 1))) (pda_nil)))))) (pds_nil)) (pds_one (pds_ret (pd_meth PySem.F.slot_str_join PySem.F.type_str_join mt_joinD (pd_str) (pda_cons (pd_op op_addD (pd_lst (pda_cons (pd_str) (pda_nil))) (pd_lc (own := [("one", 2), ("other", 3)]) (tg := .many [2, 3]) rfl sc__law_door_words.nd (by simp [tgOwn]) (pdi_seq (pd_ix (pd_var (pv 0)) (pd_int))) (blkOk_by (N := N__law_door_words) (sc := defScope s__law_door_words) (own := [("one", 2), ("other", 3)]) (by decide +kernel)) (fun _ _ _ _ _ => pg_tup rfl (pgs_cons (pg_name (i := 2) sc__law_door_words.nd rfl (Or.inl rfl)) (pgs_cons (pg_name (i := 3) sc__law_door_words.nd rfl (Or.inl rfl)) (pgs_nil)))) (fun _ _ _ _ _ => pdts_nil) (fun _ _ _ _ _ => pd_op op_addD (pd_op op_addD (pd_ix (pd_str) (pd_var (pv 2))) (pd_str)) (pd_ix (pd_str) (pd_var (pv 3)))))) (pda_nil))))))
abbrev N__law_some_door : List Str := ["jar", "world", "word", "share", "spots", "spot"]
theorem sc__law_some_door : FnScope N__law_some_door ["jar", "world"] (defScope s__law_some_door) := ⟨rfl, rfl, rfl, by decide +kernel, rfl, by decide +kernel, by decide +kernel⟩
theorem ok__law_some_door (T : Tx K mg) : FnOk P w K mg base CX0 3 T.f__law_some_door T.fd__law_some_door ["jar", "world"] (spJ K run__law_some_door) :=
  okJ T.F__law_some_door sc__law_some_door rfl (fun cdv A outer s H E hr =>
    pds_cons (pds_set (i := 2) (ps_set (i := 2) sc__law_some_door.nd rfl (.inl rfl) (pd_ix (pd_lst (pda_cons (pd_str) (pda_cons (pd_str) (pda_cons (pd_str) (pda_cons (pd_str) (pda_cons (pd_str) (pda_nil))))))) (pd_fnJ (ok__law_pull T) (hr.mono (by decide)) (by rfl) T.g__law_pull T.F__law_pull.kp T.b__law_pull pass0 (pda_cons (pd_var (pv 0)) (pda_cons (pd_int) (pda_nil))))))) (pds_cons (pds_set (i := 3) (ps_set (i := 3) sc__law_some_door.nd rfl (.inr rfl) (pd_ix (pd_lst (pda_cons (pd_int) (pda_cons (pd_int) (pda_cons (pd_int) (pda_cons (pd_int) (pda_cons (pd_int) (pda_nil))))))) (pd_fnJ (ok__law_pull T) (hr.mono (by decide)) (by rfl) T.g__law_pull T.F__law_pull.kp T.b__law_pull pass0 (pda_cons (pd_var (pv 0)) (pda_cons (pd_int) (pda_nil))))))) (pds_cons (pds_if (PW.pt (pd_or (pd_cmpT (op_eqDD hr.units) (pd_var (pv 2)) (pd_str) (nomark _)) (pw_or1 (pd_cmpT (op_eqDD hr.units) (pd_var (pv 2)) (pd_str) (nomark _))))) (pds_one (pds_ret (pd_tup (pda_cons (pd_var (pv 2)) (pda_cons (pd_fnJ (ok__law_some_asks T) (hr.mono (by decide)) (by rfl) T.g__law_some_asks T.F__law_some_asks.kp T.b__law_some_asks pass0 (pda_cons (pd_var (pv 0)) (pda_cons (pd_var (pv 1)) (pda_cons (pd_ix (pd_lst (pda_cons (pd_int) (pda_cons (pd_int) (pda_cons (pd_int) (pda_cons (pd_int) (pda_cons (pd_int) (pda_nil))))))) (pd_var (pv 3))) (pda_nil))))) (pda_nil)))))) (pds_nil)) (pds_cons (pds_set (i := 4) (ps_lcSet (i := 4) (own := [("spot", 5)]) (tg := .one 5) rfl sc__law_some_door.nd (by simp [tgOwn]) rfl rfl (sw_true rfl rfl rfl (by decide +kernel)) (pdi_rng1 (by rfl) T.m_range (pda_cons (pd_callB call_lenD (by rfl) T.m_len PySem.boot_len (pda_cons (pd_var (pv 1)) (pda_nil))) (pda_nil))) (blkOk_by (N := N__law_some_door) (sc := defScope s__law_some_door) (own := [("spot", 5)]) (by decide +kernel)) (fun _ _ _ _ _ => pg_name (i := 5) sc__law_some_door.nd rfl (Or.inl rfl)) (fun _ _ _ _ _ => pdts_one (pd_cmpT op_ltD (pd_fnJ (ok__law_pull T) (hr.mono (by decide)) (by rfl) T.g__law_pull T.F__law_pull.kp T.b__law_pull pass0 (pda_cons (pd_var (pv 0)) (pda_cons (pd_int) (pda_nil)))) (pd_var (pv 3)) (nomark _))) (fun _ _ _ _ _ => pd_var (pv 5)))) (pds_cons (pds_if (pd_cmpT (op_eqDD hr.units) (pd_var (pv 2)) (pd_str) (nomark _)) (pds_one (pds_ret (pd_tup (pda_cons (pd_var (pv 2)) (pda_cons (pd_callT call_tupleD (by rfl) T.m_tuple (by decide +kernel) (pda_cons (pd_lc (own := [("spot", 5)]) (tg := .one 5) rfl sc__law_some_door.nd (by simp [tgOwn]) (pdi_seq (pd_var (pv 4))) (blkOk_by (N := N__law_some_door) (sc := defScope s__law_some_door) (own := [("spot", 5)]) (by decide +kernel)) (fun _ _ _ _ _ => pg_name (i := 5) sc__law_some_door.nd rfl (Or.inl rfl)) (fun _ _ _ _ _ => pdts_nil) (fun _ _ _ _ _ => pd_tup (pda_cons (pd_var (pv 5)) (pda_cons (pd_fnJ (ok__law_pull T) (hr.mono (by decide)) (by rfl) T.g__law_pull T.F__law_pull.kp T.b__law_pull pass0 (pda_cons (pd_var (pv 0)) (pda_cons (pd_callB call_lenD (by rfl) T.m_len PySem.boot_len (pda_cons (pd_var (pv 1)) (pda_nil))) (pda_nil)))) (pda_nil))))) (pda_nil))) (pda_nil)))))) (pds_nil)) (pds_one (pds_ret (pd_tup (pda_cons (pd_var (pv 2)) (pda_cons (pd_callT call_tupleD (by rfl) T.m_tuple (by decide +kernel) (pda_cons (pd_var (pv 4)) (pda_nil))) (pda_nil)))))))))))
abbrev N__law_other_words : List Str := ["jar", "parts", "turn", "at", "word"]
theorem sc__law_other_words : FnScope N__law_other_words ["jar", "parts"] (defScope s__law_other_words) := ⟨rfl, rfl, rfl, by decide +kernel, rfl, by decide +kernel, by decide +kernel⟩
theorem ok__law_other_words (T : Tx K mg) : FnOk P w K mg base CX0 3 T.f__law_other_words T.fd__law_other_words ["jar", "parts"] (spJ K run__law_other_words) :=
  okJ T.F__law_other_words sc__law_other_words rfl (fun cdv A outer s H E hr =>
    pds_cons (pds_set (i := 2) (ps_set (i := 2) sc__law_other_words.nd rfl (.inl rfl) (pd_fnJ (ok__law_pull T) (hr.mono (by decide)) (by rfl) T.g__law_pull T.F__law_pull.kp T.b__law_pull pass0 (pda_cons (pd_var (pv 0)) (pda_cons (pd_int) (pda_nil)))))) (pds_cons (pds_set (i := 3) (ps_set (i := 3) sc__law_other_words.nd rfl (.inl rfl) (pd_fnJ (ok__law_pull T) (hr.mono (by decide)) (by rfl) T.g__law_pull T.F__law_pull.kp T.b__law_pull pass0 (pda_cons (pd_var (pv 0)) (pda_cons (pd_op op_addD (pd_callB call_lenD (by rfl) T.m_len PySem.boot_len (pda_cons (pd_var (pv 1)) (pda_nil))) (pd_int)) (pda_nil)))))) (pds_cons (pds_if (pd_cmpT (op_eqDD hr.units) (pd_var (pv 2)) (pd_int) (nomark _)) (pds_one (pds_ret (pd_op op_addD (pd_slice (pd_var (pv 1)) (po_no) (po_part (pd_var (pv 3)))) (pd_slice (pd_var (pv 1)) (po_part (pd_op op_addD (pd_var (pv 3)) (pd_int))) (po_no))))) (pds_nil)) (pds_cons (pds_if (pd_cmpT (op_eqDD hr.units) (pd_var (pv 2)) (pd_int) (nomark _)) (pds_one (pds_ret (pd_op op_addD (pd_op op_addD (pd_slice (pd_var (pv 1)) (po_no) (po_part (pd_var (pv 3)))) (pd_slice (pd_var (pv 1)) (po_part (pd_var (pv 3))) (po_part (pd_op op_addD (pd_var (pv 3)) (pd_int))))) (pd_slice (pd_var (pv 1)) (po_part (pd_var (pv 3))) (po_no))))) (pds_nil)) (pds_cons (pds_if (pd_cmpT (op_eqDD hr.units) (pd_var (pv 2)) (pd_int) (nomark _)) (pds_one (pds_ret (pd_op op_addD (pd_op op_addD (pd_slice (pd_var (pv 1)) (po_no) (po_part (pd_var (pv 3)))) (pd_lst (pda_cons (pd_fnJ (ok__law_other_word T) (hr.mono (by decide)) (by rfl) T.g__law_other_word T.F__law_other_word.kp T.b__law_other_word pass0 (pda_cons (pd_var (pv 0)) (pda_cons (pd_str) (pda_nil)))) (pda_nil)))) (pd_slice (pd_var (pv 1)) (po_part (pd_var (pv 3))) (po_no))))) (pds_nil)) (pds_cons (pds_if (pd_cmpT (op_eqDD hr.units) (pd_var (pv 2)) (pd_int) (nomark _)) (pds_one (pds_ret (pd_op op_addD (pd_op op_addD (pd_slice (pd_var (pv 1)) (po_no) (po_part (pd_var (pv 3)))) (pd_rev (pd_slice (pd_var (pv 1)) (po_part (pd_var (pv 3))) (po_part (pd_op op_addD (pd_var (pv 3)) (pd_int)))))) (pd_slice (pd_var (pv 1)) (po_part (pd_op op_addD (pd_var (pv 3)) (pd_int))) (po_no))))) (pds_nil)) (pds_cons (pds_if (pd_cmpT (op_eqDD hr.units) (pd_var (pv 2)) (pd_int) (nomark _)) (pds_one (pds_ret (pd_op op_addD (pd_op op_addD (pd_slice (pd_var (pv 1)) (po_no) (po_part (pd_var (pv 3)))) (pd_lst (pda_cons (pd_meth PySem.F.slot_str_join PySem.F.type_str_join mt_joinD (pd_str) (pda_cons (pd_slice (pd_var (pv 1)) (po_part (pd_var (pv 3))) (po_part (pd_op op_addD (pd_var (pv 3)) (pd_int)))) (pda_nil))) (pda_nil)))) (pd_slice (pd_var (pv 1)) (po_part (pd_op op_addD (pd_var (pv 3)) (pd_int))) (po_no))))) (pds_nil)) (pds_cons (pds_if (pd_cmpT (op_eqDD hr.units) (pd_var (pv 2)) (pd_int) (nomark _)) (pds_one (pds_ret (pd_slice (pd_var (pv 1)) (po_no) (po_part (pd_var (pv 3)))))) (pds_nil)) (pds_one (pds_ret (pd_op op_addD (pd_op op_addD (pd_slice (pd_var (pv 1)) (po_no) (po_part (pd_var (pv 3)))) (pd_lc (own := [("word", 4)]) (tg := .one 4) rfl sc__law_other_words.nd (by simp [tgOwn]) (pdi_seq (pd_slice (pd_var (pv 1)) (po_part (pd_var (pv 3))) (po_part (pd_op op_addD (pd_var (pv 3)) (pd_int))))) (blkOk_by (N := N__law_other_words) (sc := defScope s__law_other_words) (own := [("word", 4)]) (by decide +kernel)) (fun _ _ _ _ _ => pg_name (i := 4) sc__law_other_words.nd rfl (Or.inl rfl)) (fun _ _ _ _ _ => pdts_nil) (fun _ _ _ _ _ => pd_fnJ (ok__law_other_word T) (hr.mono (by decide)) (by rfl) T.g__law_other_word T.F__law_other_word.kp T.b__law_other_word pass0 (pda_cons (pd_var (pv 0)) (pda_cons (pd_var (pv 4)) (pda_nil)))))) (pd_slice (pd_var (pv 1)) (po_part (pd_op op_addD (pd_var (pv 3)) (pd_int))) (po_no)))))))))))))
abbrev N__law_letter : List Str := ["word", "many"]
theorem sc__law_letter : FnScope N__law_letter ["word", "many"] (defScope s__law_letter) := ⟨rfl, rfl, rfl, by decide +kernel, rfl, by decide +kernel, by decide +kernel⟩
theorem ok__law_letter (T : Tx K mg) : FnOk P w K mg base CX0 1 T.f__law_letter T.fd__law_letter ["word", "many"] (spD K run__law_letter) :=
  okD T.F__law_letter sc__law_letter rfl (fun cdv A outer s H E hr =>
    pds_cons (pds_if (PW.pt (pd_and (pd_cmpT (op_eqDD hr.units) (pd_callB call_lenD (by rfl) T.m_len PySem.boot_len (pda_cons (pd_var (pv 0)) (pda_nil))) (pd_int) (nomark _)) (pw_and1 (pd_cmpT op_inD (pd_var (pv 0)) (pd_slice (pd_str) (po_no) (po_part (pd_var (pv 1)))) (by rfl))))) (pds_one (pds_ret (pd_meth PySem.F.slot_str_index PySem.F.type_str_index mt_indexD (pd_str) (pda_cons (pd_var (pv 0)) (pda_nil))))) (pds_nil)) (pds_one (pds_ret (pd_non))))
abbrev N__law_spots_read : List Str := ["parts", "first", "many", "rising", "found", "at", "spot"]
theorem sc__law_spots_read : FnScope N__law_spots_read ["parts", "first", "many", "rising"] (defScope s__law_spots_read) := ⟨rfl, rfl, rfl, by decide +kernel, rfl, by decide +kernel, by decide +kernel⟩
theorem ok__law_spots_read (T : Tx K mg) : FnOk P w K mg base CX0 2 T.f__law_spots_read T.fd__law_spots_read ["parts", "first", "many", "rising"] (spD K run__law_spots_read) :=
  okD T.F__law_spots_read sc__law_spots_read rfl (fun cdv A outer s H E hr =>
    pds_cons (pds_if (pd_cmpT (op_eqDD hr.units) (pd_slice (pd_var (pv 0)) (po_part (pd_var (pv 1))) (po_no)) (pd_lst (pda_nil)) (nomark _)) (pds_one (pds_ret (pd_tup (pda_cons (pd_non) (pda_cons (pd_var (pv 1)) (pda_nil)))))) (pds_nil)) (pds_cons (pds_if (pd_cmpT (op_eqDD hr.units) (pd_ix (pd_var (pv 0)) (pd_var (pv 1))) (pd_str) (nomark _)) (pds_cons (pds_if (pd_cmpT op_gtD (pd_callB call_lenD (by rfl) T.m_len PySem.boot_len (pda_cons (pd_var (pv 0)) (pda_nil))) (pd_op op_addD (pd_var (pv 1)) (pd_int)) (nomark _)) (pds_one (pds_ret (pd_tup (pda_cons (pd_non) (pda_cons (pd_op op_addD (pd_var (pv 1)) (pd_int)) (pda_nil)))))) (pds_nil)) (pds_one (pds_ret (pd_tup (pda_cons (pd_tup (pda_nil)) (pda_cons (pd_non) (pda_nil))))))) (pds_nil)) (pds_cons (pds_set (i := 4) (ps_set (i := 4) sc__law_spots_read.nd rfl (.inl rfl) (pd_tup (pda_nil)))) (pds_cons (pds_for (tg := .one 5) PassesOwn.never rfl (pdi_rng2 (by rfl) T.m_range (pda_cons (pd_var (pv 1)) (pda_cons (pd_callB call_lenD (by rfl) T.m_len PySem.boot_len (pda_cons (pd_var (pv 0)) (pda_nil))) (pda_nil)))) (pg_name (i := 5) sc__law_spots_read.nd rfl (Or.inl rfl)) (pds_cons (pds_set (i := 6) (ps_set (i := 6) sc__law_spots_read.nd rfl (.inl rfl) (pd_fn (ok__law_letter T) (hr.mono (by decide)) (by rfl) T.g__law_letter T.F__law_letter.kp T.b__law_letter pass0 (pda_cons (pd_ix (pd_var (pv 0)) (pd_var (pv 5))) (pda_cons (pd_var (pv 2)) (pda_nil)))))) (pds_cons (pds_if (PW.pt (pd_or (pd_cmpT op_isD (pd_var (pv 6)) (pd_non) (nomark _)) (pw_or1 (PW.pt (pd_and (pd_tru (pd_var (pv 3))) (pd_and (pd_cmpT (op_neDD hr.units) (pd_var (pv 4)) (pd_tup (pda_nil)) (nomark _)) (pw_and1 (pd_cmpT op_geD (pd_ix (pd_var (pv 4)) (pd_neg (pd_int))) (pd_var (pv 6)) (nomark _))))))))) (pds_one (pds_ret (pd_tup (pda_cons (pd_non) (pda_cons (pd_var (pv 5)) (pda_nil)))))) (pds_nil)) (pds_one (pds_set (i := 4) (ps_set (i := 4) sc__law_spots_read.nd rfl (.inl rfl) (pd_op op_addD (pd_var (pv 4)) (pd_tup (pda_cons (pd_var (pv 6)) (pda_nil)))))))))) (pds_one (pds_ret (pd_tup (pda_cons (pd_var (pv 4)) (pda_cons (pd_non) (pda_nil))))))))))
abbrev N__law_world_read : List Str := ["parts", "first", "found", "at", "up"]
theorem sc__law_world_read : FnScope N__law_world_read ["parts", "first"] (defScope s__law_world_read) := ⟨rfl, rfl, rfl, by decide +kernel, rfl, by decide +kernel, by decide +kernel⟩
theorem ok__law_world_read (T : Tx K mg) : FnOk P w K mg base CX0 2 T.f__law_world_read T.fd__law_world_read ["parts", "first"] (spD K run__law_world_read) :=
  okD T.F__law_world_read sc__law_world_read rfl (fun cdv A outer s H E hr =>
    pds_cons (pds_if (pd_cmpT (op_neDD hr.units) (pd_slice (pd_var (pv 0)) (po_part (pd_var (pv 1))) (po_part (pd_op op_addD (pd_var (pv 1)) (pd_int)))) (pd_lst (pda_cons (pd_str) (pda_nil))) (nomark _)) (pds_one (pds_ret (pd_tup (pda_cons (pd_non) (pda_cons (pd_var (pv 1)) (pda_nil)))))) (pds_nil)) (pds_cons (pds_set (i := 2) (ps_set (i := 2) sc__law_world_read.nd rfl (.inl rfl) (pd_tup (pda_cons (pd_non) (pda_nil))))) (pds_cons (pds_for (tg := .one 3) PassesOwn.never rfl (pdi_rng2 (by rfl) T.m_range (pda_cons (pd_op op_addD (pd_var (pv 1)) (pd_int)) (pda_cons (pd_callB call_lenD (by rfl) T.m_len PySem.boot_len (pda_cons (pd_var (pv 0)) (pda_nil))) (pda_nil)))) (pg_name (i := 3) sc__law_world_read.nd rfl (Or.inl rfl)) (pds_cons (pds_if (PW.pt (pd_and (pd_cmpT (op_eqDD hr.units) (pd_var (pv 1)) (pd_int) (nomark _)) (pw_and1 (pd_cmpT (op_eqDD hr.units) (pd_ix (pd_var (pv 0)) (pd_var (pv 3))) (pd_str) (nomark _))))) (pds_one (pds_ret (pd_tup (pda_cons (pd_var (pv 2)) (pda_cons (pd_non) (pda_nil)))))) (pds_nil)) (pds_cons (pds_set (i := 4) (ps_set (i := 4) sc__law_world_read.nd rfl (.inl rfl) (pd_fn (ok__law_letter T) (hr.mono (by decide)) (by rfl) T.g__law_letter T.F__law_letter.kp T.b__law_letter pass0 (pda_cons (pd_ix (pd_var (pv 0)) (pd_var (pv 3))) (pda_cons (pd_callB call_lenD (by rfl) T.m_len PySem.boot_len (pda_cons (pd_var (pv 2)) (pda_nil))) (pda_nil)))))) (pds_cons (pds_if (PW.pt (pd_or (pd_cmpT op_isD (pd_var (pv 4)) (pd_non) (nomark _)) (pw_or1 (pd_cmpT (op_eqDD hr.units) (pd_callB call_lenD (by rfl) T.m_len PySem.boot_len (pda_cons (pd_var (pv 2)) (pda_nil))) (pd_int) (nomark _))))) (pds_one (pds_ret (pd_tup (pda_cons (pd_non) (pda_cons (pd_var (pv 3)) (pda_nil)))))) (pds_nil)) (pds_one (pds_set (i := 2) (ps_set (i := 2) sc__law_world_read.nd rfl (.inl rfl) (pd_op op_addD (pd_var (pv 2)) (pd_tup (pda_cons (pd_var (pv 4)) (pda_nil))))))))))) (pds_one (pds_ret (pd_tup (pda_cons (pd_var (pv 2)) (pda_cons (pd_non) (pda_nil)))))))))
abbrev N__law_row_read : List Str := ["word", "row", "sign", "some"]
theorem sc__law_row_read : FnScope N__law_row_read ["word"] (defScope s__law_row_read) := ⟨rfl, rfl, rfl, by decide +kernel, rfl, by decide +kernel, by decide +kernel⟩
theorem ok__law_row_read (T : Tx K mg) : FnOk P w K mg base CX0 1 T.f__law_row_read T.fd__law_row_read ["word"] (spD K run__law_row_read) :=
  okD T.F__law_row_read sc__law_row_read rfl (fun cdv A outer s H E hr =>
    pds_cons (pds_set (i := 1) (ps_set (i := 1) sc__law_row_read.nd rfl (.inl rfl) (pd_tup (pda_nil)))) (pds_cons (pds_for (tg := .one 2) PassesOwn.never rfl (pdi_seq (pd_var (pv 0))) (pg_name (i := 2) sc__law_row_read.nd rfl (Or.inl rfl)) (pds_cons (pds_if (pd_cmpT op_notInD (pd_var (pv 2)) (pd_str) (by rfl)) (pds_one (pds_ret (pd_non))) (pds_nil)) (pds_one (pds_set (i := 1) (ps_set (i := 1) sc__law_row_read.nd rfl (.inl rfl) (pd_op op_addD (pd_var (pv 1)) (pd_tup (pda_cons (pd_op op_addD (pd_op op_mulD (pd_lst (pda_cons (pd_non) (pda_nil))) (pd_callT call_intD (by rfl) T.m_int (by decide +kernel) (pda_cons (pd_cmp (op_eqDD hr.units) (pd_var (pv 2)) (pd_str) (nomark _)) (pda_nil)))) (pd_lst (pda_cons (pd_meth PySem.F.slot_str_index PySem.F.type_str_index mt_indexD (pd_str) (pda_cons (pd_var (pv 2)) (pda_nil))) (pda_nil)))) (pda_nil))))))))) (pds_cons (pds_if (PW.pt (pd_or (pd_cmpT op_ltD (pd_callB call_lenD (by rfl) T.m_len PySem.boot_len (pda_cons (pd_var (pv 1)) (pda_nil))) (pd_int) (nomark _)) (pw_or1 (pd_cmpT op_gtD (pd_callB call_lenD (by rfl) T.m_len PySem.boot_len (pda_cons (pd_var (pv 1)) (pda_nil))) (pd_int) (nomark _))))) (pds_one (pds_ret (pd_non))) (pds_nil)) (pds_one (pds_ret (pd_callT call_tupleD (by rfl) T.m_tuple (by decide +kernel) (pda_cons (pd_lc (own := [("some", 3)]) (tg := .one 3) rfl sc__law_row_read.nd (by simp [tgOwn]) (pdi_seq (pd_var (pv 1))) (blkOk_by (N := N__law_row_read) (sc := defScope s__law_row_read) (own := [("some", 3)]) (by decide +kernel)) (fun _ _ _ _ _ => pg_name (i := 3) sc__law_row_read.nd rfl (Or.inl rfl)) (fun _ _ _ _ _ => pdts_nil) (fun _ _ _ _ _ => pd_ix (pd_var (pv 3)) (pd_int))) (pda_nil))))))))
abbrev N__law_book_read : List Str := ["parts", "world", "at", "first", "rows", "k", "row"]
theorem sc__law_book_read : FnScope N__law_book_read ["parts"] (defScope s__law_book_read) := ⟨rfl, rfl, rfl, by decide +kernel, rfl, by decide +kernel, by decide +kernel⟩
theorem ok__law_book_read (T : Tx K mg) : FnOk P w K mg base CX0 3 T.f__law_book_read T.fd__law_book_read ["parts"] (spD K run__law_book_read) :=
  okD T.F__law_book_read sc__law_book_read rfl (fun cdv A outer s H E hr =>
    pds_cons (pds_if (pd_cmpT op_notInD (pd_ix (pd_var (pv 0)) (pd_int)) (pd_lst (pda_cons (pd_str) (pda_cons (pd_str) (pda_nil)))) (by rfl)) (pds_one (pds_ret (pd_tup (pda_cons (pd_non) (pda_cons (pd_int) (pda_nil)))))) (pds_nil)) (pds_cons (pds_unp (t := .many [1, 2]) (pd_fn (ok__law_world_read T) (hr.mono (by decide)) (by rfl) T.g__law_world_read T.F__law_world_read.kp T.b__law_world_read pass0 (pda_cons (pd_var (pv 0)) (pda_cons (pd_int) (pda_nil)))) (pg_tup rfl (pgs_cons (pg_name (i := 1) sc__law_book_read.nd rfl (Or.inl rfl)) (pgs_cons (pg_name (i := 2) sc__law_book_read.nd rfl (Or.inl rfl)) (pgs_nil))))) (pds_cons (pds_if (pd_cmpT op_isntD (pd_var (pv 2)) (pd_non) (nomark _)) (pds_one (pds_ret (pd_tup (pda_cons (pd_non) (pda_cons (pd_var (pv 2)) (pda_nil)))))) (pds_nil)) (pds_cons (pds_set (i := 3) (ps_set (i := 3) sc__law_book_read.nd rfl (.inl rfl) (pd_op op_addD (pd_callB call_lenD (by rfl) T.m_len PySem.boot_len (pda_cons (pd_var (pv 1)) (pda_nil))) (pd_int)))) (pds_cons (pds_if (pd_cmpT (op_neDD hr.units) (pd_slice (pd_var (pv 0)) (po_part (pd_var (pv 3))) (po_part (pd_op op_addD (pd_var (pv 3)) (pd_int)))) (pd_lst (pda_cons (pd_str) (pda_nil))) (nomark _)) (pds_one (pds_ret (pd_tup (pda_cons (pd_non) (pda_cons (pd_var (pv 3)) (pda_nil)))))) (pds_nil)) (pds_cons (pds_set (i := 4) (ps_set (i := 4) sc__law_book_read.nd rfl (.inl rfl) (pd_tup (pda_nil)))) (pds_cons (pds_for (tg := .one 5) PassesOwn.never rfl (pdi_rng1 (by rfl) T.m_range (pda_cons (pd_callB call_lenD (by rfl) T.m_len PySem.boot_len (pda_cons (pd_var (pv 1)) (pda_nil))) (pda_nil))) (pg_name (i := 5) sc__law_book_read.nd rfl (Or.inl rfl)) (pds_cons (pds_set (i := 6) (ps_set (i := 6) sc__law_book_read.nd rfl (.inl rfl) (pd_non))) (pds_cons (pds_if (pd_cmpT op_ltD (pd_op op_addD (pd_op op_addD (pd_var (pv 3)) (pd_int)) (pd_var (pv 5))) (pd_callB call_lenD (by rfl) T.m_len PySem.boot_len (pda_cons (pd_var (pv 0)) (pda_nil))) (nomark _)) (pds_one (pds_set (i := 6) (ps_set (i := 6) sc__law_book_read.nd rfl (.inl rfl) (pd_fn (ok__law_row_read T) (hr.mono (by decide)) (by rfl) T.g__law_row_read T.F__law_row_read.kp T.b__law_row_read pass0 (pda_cons (pd_ix (pd_var (pv 0)) (pd_op op_addD (pd_op op_addD (pd_var (pv 3)) (pd_int)) (pd_var (pv 5)))) (pda_nil)))))) (pds_nil)) (pds_cons (pds_if (PW.pt (pd_or (pd_cmpT op_isD (pd_var (pv 6)) (pd_non) (nomark _)) (pw_or1 (PW.pt (pd_and (pd_cmpT (op_neDD hr.units) (pd_var (pv 4)) (pd_tup (pda_nil)) (nomark _)) (pw_and1 (pd_cmpT (op_neDD hr.units) (pd_callB call_lenD (by rfl) T.m_len PySem.boot_len (pda_cons (pd_var (pv 6)) (pda_nil))) (pd_callB call_lenD (by rfl) T.m_len PySem.boot_len (pda_cons (pd_ix (pd_var (pv 4)) (pd_int)) (pda_nil))) (nomark _)))))))) (pds_one (pds_ret (pd_tup (pda_cons (pd_non) (pda_cons (pd_op op_addD (pd_op op_addD (pd_var (pv 3)) (pd_int)) (pd_var (pv 5))) (pda_nil)))))) (pds_nil)) (pds_one (pds_set (i := 4) (ps_set (i := 4) sc__law_book_read.nd rfl (.inl rfl) (pd_op op_addD (pd_var (pv 4)) (pd_tup (pda_cons (pd_var (pv 6)) (pda_nil))))))))))) (pds_cons (pds_if (pd_cmpT op_gtD (pd_callB call_lenD (by rfl) T.m_len PySem.boot_len (pda_cons (pd_var (pv 0)) (pda_nil))) (pd_op op_addD (pd_op op_addD (pd_var (pv 3)) (pd_int)) (pd_callB call_lenD (by rfl) T.m_len PySem.boot_len (pda_cons (pd_var (pv 1)) (pda_nil)))) (nomark _)) (pds_one (pds_ret (pd_tup (pda_cons (pd_non) (pda_cons (pd_op op_addD (pd_op op_addD (pd_var (pv 3)) (pd_int)) (pd_callB call_lenD (by rfl) T.m_len PySem.boot_len (pda_cons (pd_var (pv 1)) (pda_nil)))) (pda_nil)))))) (pds_nil)) (pds_one (pds_ret (pd_tup (pda_cons (pd_tup (pda_cons (pd_var (pv 1)) (pda_cons (pd_ix (pd_var (pv 0)) (pd_int)) (pda_cons (pd_var (pv 4)) (pda_nil))))) (pda_cons (pd_non) (pda_nil))))))))))))))
abbrev N__law_pairs_read : List Str := ["parts", "many", "found", "at", "two", "spots", "one"]
theorem sc__law_pairs_read : FnScope N__law_pairs_read ["parts", "many"] (defScope s__law_pairs_read) := ⟨rfl, rfl, rfl, by decide +kernel, rfl, by decide +kernel, by decide +kernel⟩
theorem ok__law_pairs_read (T : Tx K mg) : FnOk P w K mg base CX0 3 T.f__law_pairs_read T.fd__law_pairs_read ["parts", "many"] (spD K run__law_pairs_read) :=
  okD T.F__law_pairs_read sc__law_pairs_read rfl (fun cdv A outer s H E hr =>
    pds_cons (pds_if (PW.pt (pd_or (pd_cmpT (op_eqDD hr.units) (pd_slice (pd_var (pv 0)) (po_part (pd_int)) (po_no)) (pd_lst (pda_nil)) (nomark _)) (pw_or1 (pd_cmpT (op_eqDD hr.units) (pd_ix (pd_var (pv 0)) (pd_int)) (pd_str) (nomark _))))) (pds_one (pds_ret (pd_fn (ok__law_spots_read T) (hr.mono (by decide)) (by rfl) T.g__law_spots_read T.F__law_spots_read.kp T.b__law_spots_read pass0 (pda_cons (pd_var (pv 0)) (pda_cons (pd_int) (pda_cons (pd_var (pv 1)) (pda_cons (pd_bl) (pda_nil)))))))) (pds_nil)) (pds_cons (pds_set (i := 2) (ps_set (i := 2) sc__law_pairs_read.nd rfl (.inl rfl) (pd_tup (pda_nil)))) (pds_cons (pds_for (tg := .one 3) PassesOwn.never rfl (pdi_rng2 (by rfl) T.m_range (pda_cons (pd_int) (pda_cons (pd_callB call_lenD (by rfl) T.m_len PySem.boot_len (pda_cons (pd_var (pv 0)) (pda_nil))) (pda_nil)))) (pg_name (i := 3) sc__law_pairs_read.nd rfl (Or.inl rfl)) (pds_cons (pds_set (i := 4) (ps_set (i := 4) sc__law_pairs_read.nd rfl (.inl rfl) (pd_meth PySem.F.slot_str_split PySem.F.type_str_split mt_splitD (pd_ix (pd_var (pv 0)) (pd_var (pv 3))) (pda_cons (pd_str) (pda_nil))))) (pds_cons (pds_set (i := 5) (ps_lcSet (i := 5) (own := [("one", 6)]) (tg := .one 6) rfl sc__law_pairs_read.nd (by simp [tgOwn]) rfl rfl (sw_true rfl rfl rfl (by decide +kernel)) (pdi_seq (pd_var (pv 4))) (blkOk_by (N := N__law_pairs_read) (sc := defScope s__law_pairs_read) (own := [("one", 6)]) (by decide +kernel)) (fun _ _ _ _ _ => pg_name (i := 6) sc__law_pairs_read.nd rfl (Or.inl rfl)) (fun _ _ _ _ _ => pdts_nil) (fun _ _ _ _ _ => pd_fn (ok__law_letter T) (hr.mono (by decide)) (by rfl) T.g__law_letter T.F__law_letter.kp T.b__law_letter pass0 (pda_cons (pd_var (pv 6)) (pda_cons (pd_var (pv 1)) (pda_nil)))))) (pds_cons (pds_if (PW.pt (pd_or (pd_cmpT (op_neDD hr.units) (pd_callB call_lenD (by rfl) T.m_len PySem.boot_len (pda_cons (pd_var (pv 4)) (pda_nil))) (pd_int) (nomark _)) (pd_or (pd_cmpT op_inD (pd_non) (pd_var (pv 5)) (by rfl)) (pw_or1 (PW.pt (pd_and (pd_cmpT (op_neDD hr.units) (pd_var (pv 2)) (pd_tup (pda_nil)) (nomark _)) (pw_and1 (pd_cmpT op_geD (pd_ix (pd_ix (pd_var (pv 2)) (pd_neg (pd_int))) (pd_int)) (pd_ix (pd_var (pv 5)) (pd_int)) (nomark _))))))))) (pds_one (pds_ret (pd_tup (pda_cons (pd_non) (pda_cons (pd_var (pv 3)) (pda_nil)))))) (pds_nil)) (pds_one (pds_set (i := 2) (ps_set (i := 2) sc__law_pairs_read.nd rfl (.inl rfl) (pd_op op_addD (pd_var (pv 2)) (pd_tup (pda_cons (pd_tup (pda_cons (pd_ix (pd_var (pv 5)) (pd_int)) (pda_cons (pd_ix (pd_var (pv 5)) (pd_int)) (pda_nil)))) (pda_nil))))))))))) (pds_one (pds_ret (pd_tup (pda_cons (pd_var (pv 2)) (pda_cons (pd_non) (pda_nil)))))))))
abbrev N__law_gate_read : List Str := ["parts", "many", "found", "at"]
theorem sc__law_gate_read : FnScope N__law_gate_read ["parts", "many"] (defScope s__law_gate_read) := ⟨rfl, rfl, rfl, by decide +kernel, rfl, by decide +kernel, by decide +kernel⟩
theorem ok__law_gate_read (T : Tx K mg) : FnOk P w K mg base CX0 4 T.f__law_gate_read T.fd__law_gate_read ["parts", "many"] (spD K run__law_gate_read) :=
  okD T.F__law_gate_read sc__law_gate_read rfl (fun cdv A outer s H E hr =>
    pds_cons (pds_if (pd_cmpT op_notInD (pd_ix (pd_var (pv 0)) (pd_int)) (pd_lst (pda_cons (pd_str) (pda_cons (pd_str) (pda_cons (pd_str) (pda_cons (pd_str) (pda_cons (pd_str) (pda_nil))))))) (by rfl)) (pds_one (pds_ret (pd_tup (pda_cons (pd_non) (pda_cons (pd_int) (pda_nil)))))) (pds_nil)) (pds_cons (pds_if (pd_cmpT (op_eqDD hr.units) (pd_ix (pd_var (pv 0)) (pd_int)) (pd_str) (nomark _)) (pds_one (pds_unp (t := .many [2, 3]) (pd_fn (ok__law_pairs_read T) (hr.mono (by decide)) (by rfl) T.g__law_pairs_read T.F__law_pairs_read.kp T.b__law_pairs_read pass0 (pda_cons (pd_var (pv 0)) (pda_cons (pd_var (pv 1)) (pda_nil)))) (pg_tup rfl (pgs_cons (pg_name (i := 2) sc__law_gate_read.nd rfl (Or.inl rfl)) (pgs_cons (pg_name (i := 3) sc__law_gate_read.nd rfl (Or.inl rfl)) (pgs_nil)))))) (pds_one (pds_unp (t := .many [2, 3]) (pd_fn (ok__law_spots_read T) (hr.mono (by decide)) (by rfl) T.g__law_spots_read T.F__law_spots_read.kp T.b__law_spots_read pass0 (pda_cons (pd_var (pv 0)) (pda_cons (pd_int) (pda_cons (pd_var (pv 1)) (pda_cons (pd_cmp op_inD (pd_ix (pd_var (pv 0)) (pd_int)) (pd_lst (pda_cons (pd_str) (pda_cons (pd_str) (pda_nil)))) (by rfl)) (pda_nil)))))) (pg_tup rfl (pgs_cons (pg_name (i := 2) sc__law_gate_read.nd rfl (Or.inl rfl)) (pgs_cons (pg_name (i := 3) sc__law_gate_read.nd rfl (Or.inl rfl)) (pgs_nil))))))) (pds_cons (pds_if (pd_cmpT op_isntD (pd_var (pv 3)) (pd_non) (nomark _)) (pds_one (pds_ret (pd_tup (pda_cons (pd_non) (pda_cons (pd_var (pv 3)) (pda_nil)))))) (pds_nil)) (pds_one (pds_ret (pd_tup (pda_cons (pd_tup (pda_cons (pd_ix (pd_var (pv 0)) (pd_int)) (pda_cons (pd_var (pv 2)) (pda_nil)))) (pda_cons (pd_non) (pda_nil)))))))))
abbrev N__law_fill : List Str := ["cell"]
theorem sc__law_fill : FnScope N__law_fill ["cell"] (defScope s__law_fill) := ⟨rfl, rfl, rfl, by decide +kernel, rfl, by decide +kernel, by decide +kernel⟩
theorem ok__law_fill (T : Tx K mg) : FnOk P w K mg base CX0 1 T.f__law_fill T.fd__law_fill ["cell"] (spD K run__law_fill) :=
  okD T.F__law_fill sc__law_fill rfl (fun cdv A outer s H E hr =>
    pds_one (pds_ret (pd_lst (pda_cons (pd_callB (call_maxD rfl) (by rfl) T.m_max (by decide +kernel) (pda_cons (pd_int) (pda_cons (pd_op op_subD (pd_var (pv 0)) (pd_op op_powD (pd_int) (pd_int))) (pda_nil)))) (pda_cons (pd_op op_modD (pd_callT call_intD (by rfl) T.m_int (by decide +kernel) (pda_cons (pd_var (pv 0)) (pda_nil))) (pd_int)) (pda_cons (pd_int) (pda_nil)))))))
abbrev N__law_some_world : List Str := ["jar", "reach", "many", "shape", "ups", "at", "up"]
theorem sc__law_some_world : FnScope N__law_some_world ["jar", "reach"] (defScope s__law_some_world) := ⟨rfl, rfl, rfl, by decide +kernel, rfl, by decide +kernel, by decide +kernel⟩
theorem ok__law_some_world (T : Tx K mg) : FnOk P w K mg base CX0 2 T.f__law_some_world T.fd__law_some_world ["jar", "reach"] (spJ K run__law_some_world) :=
  okJ T.F__law_some_world sc__law_some_world rfl (fun cdv A outer s H E hr =>
    pds_cons (pds_set (i := 2) (ps_set (i := 2) sc__law_some_world.nd rfl (.inl rfl) (pd_op op_addD (pd_int) (pd_fnJ (ok__law_pull T) (hr.mono (by decide)) (by rfl) T.g__law_pull T.F__law_pull.kp T.b__law_pull pass0 (pda_cons (pd_var (pv 0)) (pda_cons (pd_var (pv 1)) (pda_nil))))))) (pds_cons (pds_set (i := 3) (ps_set (i := 3) sc__law_some_world.nd rfl (.inl rfl) (pd_fnJ (ok__law_pull T) (hr.mono (by decide)) (by rfl) T.g__law_pull T.F__law_pull.kp T.b__law_pull pass0 (pda_cons (pd_var (pv 0)) (pda_cons (pd_int) (pda_nil)))))) (pds_cons (pds_own (i := 4) (ps_set (i := 4) sc__law_some_world.nd rfl (.inl rfl) (pd_lst (pda_cons (pd_non) (pda_nil))))) (pds_cons (pds_for (tg := .one 5) PassesOwn.never rfl (pdi_rng2 (by rfl) T.m_range (pda_cons (pd_int) (pda_cons (pd_var (pv 2)) (pda_nil)))) (pg_name (i := 5) sc__law_some_world.nd rfl (Or.inl rfl)) (pds_cons (pds_set (i := 6) (ps_set (i := 6) sc__law_some_world.nd rfl (.inl rfl) (pd_int))) (pds_cons (pds_if (PW.pt (pd_or (pd_cmpT (op_eqDD hr.units) (pd_var (pv 3)) (pd_int) (nomark _)) (pw_or1 (pd_cmpT (op_eqDD hr.units) (pd_var (pv 3)) (pd_int) (nomark _))))) (pds_one (pds_set (i := 6) (ps_set (i := 6) sc__law_some_world.nd rfl (.inl rfl) (pd_fnJ (ok__law_pull T) (hr.mono (by decide)) (by rfl) T.g__law_pull T.F__law_pull.kp T.b__law_pull pass0 (pda_cons (pd_var (pv 0)) (pda_cons (pd_var (pv 5)) (pda_nil))))))) (pds_nil)) (pds_cons (pds_if (pd_cmpT (op_eqDD hr.units) (pd_var (pv 3)) (pd_int) (nomark _)) (pds_one (pds_set (i := 6) (ps_set (i := 6) sc__law_some_world.nd rfl (.inl rfl) (pd_op op_subD (pd_var (pv 5)) (pd_int))))) (pds_nil)) (pds_cons (pds_if (pd_cmpT (op_eqDD hr.units) (pd_var (pv 3)) (pd_int) (nomark _)) (pds_one (pds_set (i := 6) (ps_set (i := 6) sc__law_some_world.nd rfl (.inl rfl) (pd_callB (call_minD rfl) (by rfl) T.m_min (by decide +kernel) (pda_cons (pd_op op_subD (pd_var (pv 5)) (pd_int)) (pda_cons (pd_op op_fdivD (pd_var (pv 2)) (pd_int)) (pda_nil))))))) (pds_nil)) (pds_cons (pds_if (pd_cmpT (op_eqDD hr.units) (pd_var (pv 3)) (pd_int) (nomark _)) (pds_one (pds_set (i := 6) (ps_set (i := 6) sc__law_some_world.nd rfl (.inl rfl) (pd_fnJ (ok__law_pull T) (hr.mono (by decide)) (by rfl) T.g__law_pull T.F__law_pull.kp T.b__law_pull pass0 (pda_cons (pd_var (pv 0)) (pda_cons (pd_callB (call_minD rfl) (by rfl) T.m_min (by decide +kernel) (pda_cons (pd_var (pv 5)) (pda_cons (pd_int) (pda_nil)))) (pda_nil))))))) (pds_nil)) (pds_one (pds_app (i := 4) (pv 4) (pd_var (pv 6)))))))))) (pds_one (pds_ret (pd_callT call_tupleD (by rfl) T.m_tuple (by decide +kernel) (pda_cons (pd_var (pv 4)) (pda_nil)))))))))
abbrev N__law_same : List Str := ["told", "due"]
theorem sc__law_same : FnScope N__law_same ["told", "due"] (defScope s__law_same) := ⟨rfl, rfl, rfl, by decide +kernel, rfl, by decide +kernel, by decide +kernel⟩
theorem ok__law_same (T : Tx K mg) : FnG P w K mg base CX0 1 T.f__law_same T.fd__law_same ["told", "due"] (spD K run__law_same) :=
  okDG T.F__law_same sc__law_same rfl (fun cdv A outer s H E hG hr =>
    pds_one (pds_ret (pd_andV (pd_cmp (op_eqDD hr.units) (pd_var (pv 0)) (pd_var (pv 1)) (nomark _)) (pe_one (pd_cmp (op_eqDD hr.units) (pd_callB (call_reprD hG hr.u66) (by rfl) T.m_repr (by decide +kernel) (pda_cons (pd_var (pv 0)) (pda_nil))) (pd_callB (call_reprD hG hr.u66) (by rfl) T.m_repr (by decide +kernel) (pda_cons (pd_var (pv 1)) (pda_nil))) (nomark _))))))
abbrev N__law_stands_under : List Str := ["caught", "found"]
theorem sc__law_stands_under : FnScope N__law_stands_under ["caught"] (defScope s__law_stands_under) := ⟨rfl, rfl, rfl, by decide +kernel, rfl, by decide +kernel, by decide +kernel⟩
theorem ok__law_stands_under (T : Tx K mg) : FnOk P w K mg base CX0 1 T.f__law_stands_under T.fd__law_stands_under ["caught"] (spD K run__law_stands_under) :=
  okD T.F__law_stands_under sc__law_stands_under rfl (fun cdv A outer s H E hr =>
    pds_cons (pds_own (i := 1) (ps_set (i := 1) sc__law_stands_under.nd rfl (.inl rfl) (pd_op op_addD (pd_op op_mulD (pd_lst (pda_cons (pd_int) (pda_nil))) (pd_callT call_intD (by rfl) T.m_int (by decide +kernel) (pda_cons (pd_isx (c := .ref T.c_InvalidTree) (by rfl) T.m_isinstance (by decide +kernel) (fun u h => h) T.t_InvalidTree (pd_var (pv 0)) (pe_glob (v := .ref T.c_InvalidTree) (by rfl) T.gc_InvalidTree rfl)) (pda_nil)))) (pd_op op_mulD (pd_lst (pda_cons (pd_int) (pda_nil))) (pd_callT call_intD (by rfl) T.m_int (by decide +kernel) (pda_cons (pd_isx (c := .ref T.c_InvalidLocale) (by rfl) T.m_isinstance (by decide +kernel) (fun u h => h) T.t_InvalidLocale (pd_var (pv 0)) (pe_glob (v := .ref T.c_InvalidLocale) (by rfl) T.gc_InvalidLocale rfl)) (pda_nil))))))) (pds_cons (pds_own (i := 1) (ps_set (i := 1) sc__law_stands_under.nd rfl (.inl rfl) (pd_op op_addD (pd_op op_addD (pd_var (pv 1)) (pd_op op_mulD (pd_lst (pda_cons (pd_int) (pda_nil))) (pd_callT call_intD (by rfl) T.m_int (by decide +kernel) (pda_cons (pd_isx (c := .ref T.c_InvalidWishes) (by rfl) T.m_isinstance (by decide +kernel) (fun u h => h) T.t_InvalidWishes (pd_var (pv 0)) (pe_glob (v := .ref T.c_InvalidWishes) (by rfl) T.gc_InvalidWishes rfl)) (pda_nil))))) (pd_op op_mulD (pd_lst (pda_cons (pd_int) (pda_nil))) (pd_callT call_intD (by rfl) T.m_int (by decide +kernel) (pda_cons (pd_isx (c := .ref T.c_InvalidWay) (by rfl) T.m_isinstance (by decide +kernel) (fun u h => h) T.t_InvalidWay (pd_var (pv 0)) (pe_glob (v := .ref T.c_InvalidWay) (by rfl) T.gc_InvalidWay rfl)) (pda_nil))))))) (pds_cons (pds_own (i := 1) (ps_set (i := 1) sc__law_stands_under.nd rfl (.inl rfl) (pd_op op_addD (pd_op op_addD (pd_var (pv 1)) (pd_op op_mulD (pd_lst (pda_cons (pd_int) (pda_nil))) (pd_callT call_intD (by rfl) T.m_int (by decide +kernel) (pda_cons (pd_isx (c := .ref T.c_InvalidCatalog) (by rfl) T.m_isinstance (by decide +kernel) (fun u h => h) T.t_InvalidCatalog (pd_var (pv 0)) (pe_glob (v := .ref T.c_InvalidCatalog) (by rfl) T.gc_InvalidCatalog rfl)) (pda_nil))))) (pd_op op_mulD (pd_lst (pda_cons (pd_int) (pda_nil))) (pd_callT call_intD (by rfl) T.m_int (by decide +kernel) (pda_cons (pd_isx (c := .ref T.c_InvalidKey) (by rfl) T.m_isinstance (by decide +kernel) (fun u h => h) T.t_InvalidKey (pd_var (pv 0)) (pe_glob (v := .ref T.c_InvalidKey) (by rfl) T.gc_InvalidKey rfl)) (pda_nil))))))) (pds_cons (pds_own (i := 1) (ps_set (i := 1) sc__law_stands_under.nd rfl (.inl rfl) (pd_op op_addD (pd_op op_addD (pd_var (pv 1)) (pd_op op_mulD (pd_lst (pda_cons (pd_int) (pda_nil))) (pd_callT call_intD (by rfl) T.m_int (by decide +kernel) (pda_cons (pd_isx (c := .ref T.c_InvalidText) (by rfl) T.m_isinstance (by decide +kernel) (fun u h => h) T.t_InvalidText (pd_var (pv 0)) (pe_glob (v := .ref T.c_InvalidText) (by rfl) T.gc_InvalidText rfl)) (pda_nil))))) (pd_op op_mulD (pd_lst (pda_cons (pd_int) (pda_nil))) (pd_callT call_intD (by rfl) T.m_int (by decide +kernel) (pda_cons (pd_isx (c := .ref T.c_InvalidPage) (by rfl) T.m_isinstance (by decide +kernel) (fun u h => h) T.t_InvalidPage (pd_var (pv 0)) (pe_glob (v := .ref T.c_InvalidPage) (by rfl) T.gc_InvalidPage rfl)) (pda_nil))))))) (pds_cons (pds_own (i := 1) (ps_set (i := 1) sc__law_stands_under.nd rfl (.inl rfl) (pd_op op_addD (pd_op op_addD (pd_var (pv 1)) (pd_op op_mulD (pd_lst (pda_cons (pd_int) (pda_nil))) (pd_callT call_intD (by rfl) T.m_int (by decide +kernel) (pda_cons (pd_isx (c := .ref T.c_InvalidDoor) (by rfl) T.m_isinstance (by decide +kernel) (fun u h => h) T.t_InvalidDoor (pd_var (pv 0)) (pe_glob (v := .ref T.c_InvalidDoor) (by rfl) T.gc_InvalidDoor rfl)) (pda_nil))))) (pd_op op_mulD (pd_lst (pda_cons (pd_int) (pda_nil))) (pd_callT call_intD (by rfl) T.m_int (by decide +kernel) (pda_cons (pd_isx (c := .ref T.c_InvalidChoice) (by rfl) T.m_isinstance (by decide +kernel) (fun u h => h) T.t_InvalidChoice (pd_var (pv 0)) (pe_glob (v := .ref T.c_InvalidChoice) (by rfl) T.gc_InvalidChoice rfl)) (pda_nil))))))) (pds_cons (pds_own (i := 1) (ps_set (i := 1) sc__law_stands_under.nd rfl (.inl rfl) (pd_op op_addD (pd_op op_addD (pd_var (pv 1)) (pd_op op_mulD (pd_lst (pda_cons (pd_int) (pda_nil))) (pd_callT call_intD (by rfl) T.m_int (by decide +kernel) (pda_cons (pd_isx (c := .ref T.c_InvalidIndex) (by rfl) T.m_isinstance (by decide +kernel) (fun u h => h) T.t_InvalidIndex (pd_var (pv 0)) (pe_glob (v := .ref T.c_InvalidIndex) (by rfl) T.gc_InvalidIndex rfl)) (pda_nil))))) (pd_op op_mulD (pd_lst (pda_cons (pd_int) (pda_nil))) (pd_callT call_intD (by rfl) T.m_int (by decide +kernel) (pda_cons (pd_isx (c := .ref T.c_Unlike) (by rfl) T.m_isinstance (by decide +kernel) (fun u h => h) T.t_Unlike (pd_var (pv 0)) (pe_glob (v := .ref T.c_Unlike) (by rfl) T.gc_Unlike rfl)) (pda_nil))))))) (pds_cons (pds_own (i := 1) (ps_set (i := 1) sc__law_stands_under.nd rfl (.inl rfl) (pd_op op_addD (pd_op op_addD (pd_var (pv 1)) (pd_op op_mulD (pd_lst (pda_cons (pd_int) (pda_nil))) (pd_callT call_intD (by rfl) T.m_int (by decide +kernel) (pda_cons (pd_isx (c := .ref T.c_Needless) (by rfl) T.m_isinstance (by decide +kernel) (fun u h => h) T.t_Needless (pd_var (pv 0)) (pe_glob (v := .ref T.c_Needless) (by rfl) T.gc_Needless rfl)) (pda_nil))))) (pd_op op_mulD (pd_lst (pda_cons (pd_int) (pda_nil))) (pd_callT call_intD (by rfl) T.m_int (by decide +kernel) (pda_cons (pd_isx (c := .ref T.c_NothingThere) (by rfl) T.m_isinstance (by decide +kernel) (fun u h => h) T.t_NothingThere (pd_var (pv 0)) (pe_glob (v := .ref T.c_NothingThere) (by rfl) T.gc_NothingThere rfl)) (pda_nil))))))) (pds_cons (pds_own (i := 1) (ps_set (i := 1) sc__law_stands_under.nd rfl (.inl rfl) (pd_op op_addD (pd_op op_addD (pd_var (pv 1)) (pd_op op_mulD (pd_lst (pda_cons (pd_int) (pda_nil))) (pd_callT call_intD (by rfl) T.m_int (by decide +kernel) (pda_cons (pd_isx (c := .ref T.c_NoBlock) (by rfl) T.m_isinstance (by decide +kernel) (fun u h => h) T.t_NoBlock (pd_var (pv 0)) (pe_glob (v := .ref T.c_NoBlock) (by rfl) T.gc_NoBlock rfl)) (pda_nil))))) (pd_op op_mulD (pd_lst (pda_cons (pd_int) (pda_nil))) (pd_callT call_intD (by rfl) T.m_int (by decide +kernel) (pda_cons (pd_isx (c := .ref T.c_NothingToUndo) (by rfl) T.m_isinstance (by decide +kernel) (fun u h => h) T.t_NothingToUndo (pd_var (pv 0)) (pe_glob (v := .ref T.c_NothingToUndo) (by rfl) T.gc_NothingToUndo rfl)) (pda_nil))))))) (pds_cons (pds_own (i := 1) (ps_set (i := 1) sc__law_stands_under.nd rfl (.inl rfl) (pd_op op_addD (pd_op op_addD (pd_var (pv 1)) (pd_op op_mulD (pd_lst (pda_cons (pd_int) (pda_nil))) (pd_callT call_intD (by rfl) T.m_int (by decide +kernel) (pda_cons (pd_isx (c := .ref T.c_InvalidCommand) (by rfl) T.m_isinstance (by decide +kernel) (fun u h => h) T.t_InvalidCommand (pd_var (pv 0)) (pe_glob (v := .ref T.c_InvalidCommand) (by rfl) T.gc_InvalidCommand rfl)) (pda_nil))))) (pd_op op_mulD (pd_lst (pda_cons (pd_int) (pda_nil))) (pd_callT call_intD (by rfl) T.m_int (by decide +kernel) (pda_cons (pd_isx (c := .ref T.c_Mixed) (by rfl) T.m_isinstance (by decide +kernel) (fun u h => h) T.t_Mixed (pd_var (pv 0)) (pe_glob (v := .ref T.c_Mixed) (by rfl) T.gc_Mixed rfl)) (pda_nil))))))) (pds_cons (pds_own (i := 1) (ps_set (i := 1) sc__law_stands_under.nd rfl (.inl rfl) (pd_op op_addD (pd_var (pv 1)) (pd_op op_mulD (pd_lst (pda_cons (pd_int) (pda_nil))) (pd_callT call_intD (by rfl) T.m_int (by decide +kernel) (pda_cons (pd_isx (c := .ref T.c_InvalidWords) (by rfl) T.m_isinstance (by decide +kernel) (fun u h => h) T.t_InvalidWords (pd_var (pv 0)) (pe_glob (v := .ref T.c_InvalidWords) (by rfl) T.gc_InvalidWords rfl)) (pda_nil))))))) (pds_cons (pds_if (PW.pt (pd_or (pd_notT (pd_tru (pd_isx (c := .ref T.c_WishError) (by rfl) T.m_isinstance (by decide +kernel) (fun u h => h) T.t_WishError (pd_var (pv 0)) (pe_glob (v := .ref T.c_WishError) (by rfl) T.gc_WishError rfl)))) (pw_or1 (pd_notT (pd_tru (pd_isx (c := .ty "ValueError") (by rfl) T.m_isinstance (by decide +kernel) (fun u h => h) T.t_ValueError (pd_var (pv 0)) (pe_bltn (v := .ty "ValueError") (by rfl) T.m_ValueError (by decide +kernel) rfl (by decide) (by decide)))))))) (pds_one (pds_app (i := 1) (pv 1) (pd_int))) (pds_nil)) (pds_one (pds_ret (pd_var (pv 1)))))))))))))))
abbrev N__law_placed : List Str := ["reader", "world", "text", "found", "caught", "e"]
theorem sc__law_placed : FnScope N__law_placed ["reader", "world", "text"] (defScope s__law_placed) := ⟨rfl, rfl, rfl, by decide +kernel, rfl, by decide +kernel, by decide +kernel⟩
theorem ok__law_placed (T : Tx K mg) : FnOk P w K mg base CX0 6 T.f__law_placed T.fd__law_placed ["reader", "world", "text"] (spD K run__law_placed) :=
  okD T.F__law_placed sc__law_placed rfl (fun cdv A outer s H E hr =>
    pds_cons (pds_set (i := 3) (ps_set (i := 3) sc__law_placed.nd rfl (.inl rfl) (pd_non))) (pds_cons (pds_set (i := 4) (ps_set (i := 4) sc__law_placed.nd rfl (.inl rfl) (pd_non))) (pds_cons (px_try (i := 5) rfl rfl sc__law_placed.nd rfl rfl ⟨rfl, by decide, .inl T.gc_InvalidWords⟩ takes0 rfl T.n_InvalidWords T.x_InvalidWords (fun W pn xe tk po => px_one (px_if (px_t (pd_cmpT (op_eqDD hr.units) (pd_var (pv 0)) (pd_int) (nomark _))) (px_one (px_set (i := 3) (ps_set (i := 3) sc__law_placed.nd rfl (.inl rfl) (px_fn tk (ok_read_wishes T) (hr.mono (by decide)) (by rfl) T.g_read_wishes T.F_read_wishes.kp T.b_read_wishes (pda_cons (pd_var (pv 1)) (pda_cons (pd_var (pv 2)) (pda_nil))))))) (px_one (px_if (px_t (pd_cmpT (op_eqDD hr.units) (pd_var (pv 0)) (pd_int) (nomark _))) (px_one (px_set (i := 3) (ps_set (i := 3) sc__law_placed.nd rfl (.inl rfl) (px_fn tk (ok_read_tree T) (hr.mono (by decide)) (by rfl) T.g_read_tree T.F_read_tree.kp T.b_read_tree (pda_cons (pd_var (pv 2)) (pda_nil)))))) (px_one (px_if (px_t (pd_cmpT (op_eqDD hr.units) (pd_var (pv 0)) (pd_int) (nomark _))) (px_one (px_set (i := 3) (ps_set (i := 3) sc__law_placed.nd rfl (.inl rfl) (px_fn tk (ok_read_catalog T) (hr.mono (by decide)) (by rfl) T.g_read_catalog T.F_read_catalog.kp T.b_read_catalog (pda_cons (pd_var (pv 2)) (pda_nil)))))) (px_one (px_set (i := 3) (ps_set (i := 3) sc__law_placed.nd rfl (.inl rfl) (px_fn tk (ok_read_door T) (hr.mono (by decide)) (by rfl) T.g_read_door T.F_read_door.kp T.b_read_door (pda_cons (pd_var (pv 1)) (pda_cons (pd_var (pv 2)) (pda_nil))))))))))))) (fun a pn => pds_one (pds_set (i := 4) (ps_set (i := 4) sc__law_placed.nd rfl (.inl rfl) (pd_var (pv 5)))))) (pds_cons (pds_if (pd_cmpT op_isD (pd_var (pv 4)) (pd_non) (nomark _)) (pds_one (pds_ret (pd_tup (pda_cons (pd_var (pv 3)) (pda_cons (pd_non) (pda_nil)))))) (pds_nil)) (pds_cons (pds_if (pd_cmpT (op_neDD hr.units) (pd_fn (ok__law_stands_under T) (hr.mono (by decide)) (by rfl) T.g__law_stands_under T.F__law_stands_under.kp T.b__law_stands_under pass0 (pda_cons (pd_var (pv 4)) (pda_nil))) (pd_lst (pda_cons (pd_int) (pda_nil))) (nomark _)) (pds_one (pds_ret (pd_tup (pda_cons (pd_non) (pda_cons (pd_str) (pda_nil)))))) (pds_nil)) (pds_one (pds_ret (pd_tup (pda_cons (pd_non) (pda_cons (pd_fld T.f_place (pd_var (pv 4))) (pda_nil)))))))))))
abbrev N__law_some_text : List Str := ["jar", "reader", "world", "k", "text"]
theorem sc__law_some_text : FnScope N__law_some_text ["jar", "reader", "world"] (defScope s__law_some_text) := ⟨rfl, rfl, rfl, by decide +kernel, rfl, by decide +kernel, by decide +kernel⟩
theorem ok__law_some_text (T : Tx K mg) : FnOk P w K mg base CX0 4 T.f__law_some_text T.fd__law_some_text ["jar", "reader", "world"] (spJ K run__law_some_text) :=
  okJ T.F__law_some_text sc__law_some_text rfl (fun cdv A outer s H E hr =>
    pds_cons (pds_if (pd_cmpT (op_eqDD hr.units) (pd_fnJ (ok__law_pull T) (hr.mono (by decide)) (by rfl) T.g__law_pull T.F__law_pull.kp T.b__law_pull pass0 (pda_cons (pd_var (pv 0)) (pda_cons (pd_int) (pda_nil)))) (pd_int) (nomark _)) (pds_one (pds_ret (pd_meth PySem.F.slot_str_join PySem.F.type_str_join mt_joinD (pd_str) (pda_cons (pd_lc (own := [("k", 3)]) (tg := .one 3) rfl sc__law_some_text.nd (by simp [tgOwn]) (pdi_rng1 (by rfl) T.m_range (pda_cons (pd_op op_addD (pd_int) (pd_fnJ (ok__law_pull T) (hr.mono (by decide)) (by rfl) T.g__law_pull T.F__law_pull.kp T.b__law_pull pass0 (pda_cons (pd_var (pv 0)) (pda_cons (pd_int) (pda_nil))))) (pda_nil))) (blkOk_by (N := N__law_some_text) (sc := defScope s__law_some_text) (own := [("k", 3)]) (by decide +kernel)) (fun _ _ _ _ _ => pg_name (i := 3) sc__law_some_text.nd rfl (Or.inl rfl)) (fun _ _ _ _ _ => pdts_nil) (fun _ _ _ _ _ => pd_fnJ (ok__law_other_word T) (hr.mono (by decide)) (by rfl) T.g__law_other_word T.F__law_other_word.kp T.b__law_other_word pass0 (pda_cons (pd_var (pv 0)) (pda_cons (pd_str) (pda_nil))))) (pda_nil))))) (pds_nil)) (pds_cons (pds_if (pd_cmpT (op_eqDD hr.units) (pd_var (pv 1)) (pd_int) (nomark _)) (pds_one (pds_set (i := 4) (ps_set (i := 4) sc__law_some_text.nd rfl (.inl rfl) (pd_fn (ok__law_letters T) (hr.mono (by decide)) (by rfl) T.g__law_letters T.F__law_letters.kp T.b__law_letters pass0 (pda_cons (pd_fnJ (ok__law_some_asks T) (hr.mono (by decide)) (by rfl) T.g__law_some_asks T.F__law_some_asks.kp T.b__law_some_asks pass0 (pda_cons (pd_var (pv 0)) (pda_cons (pd_var (pv 2)) (pda_cons (pd_int) (pda_nil))))) (pda_nil)))))) (pds_one (pds_if (pd_cmpT (op_eqDD hr.units) (pd_var (pv 1)) (pd_int) (nomark _)) (pds_one (pds_set (i := 4) (ps_set (i := 4) sc__law_some_text.nd rfl (.inl rfl) (pd_fn (ok__law_world_words T) (hr.mono (by decide)) (by rfl) T.g__law_world_words T.F__law_world_words.kp T.b__law_world_words pass0 (pda_cons (pd_var (pv 2)) (pda_nil)))))) (pds_one (pds_if (pd_cmpT (op_eqDD hr.units) (pd_var (pv 1)) (pd_int) (nomark _)) (pds_one (pds_set (i := 4) (ps_set (i := 4) sc__law_some_text.nd rfl (.inl rfl) (pd_fn (ok__law_book_words T) (hr.mono (by decide)) (by rfl) T.g__law_book_words T.F__law_book_words.kp T.b__law_book_words pass0 (pda_cons (pd_fnJ (ok__law_some_book T) (hr.mono (by decide)) (by rfl) T.g__law_some_book T.F__law_some_book.kp T.b__law_some_book pass0 (pda_cons (pd_var (pv 0)) (pda_cons (pd_var (pv 2)) (pda_cons (pd_fnJ (ok__law_some_mode T) (hr.mono (by decide)) (by rfl) T.g__law_some_mode T.F__law_some_mode.kp T.b__law_some_mode pass0 (pda_cons (pd_var (pv 0)) (pda_nil))) (pda_cons (pd_op op_addD (pd_int) (pd_fnJ (ok__law_pull T) (hr.mono (by decide)) (by rfl) T.g__law_pull T.F__law_pull.kp T.b__law_pull pass0 (pda_cons (pd_var (pv 0)) (pda_cons (pd_int) (pda_nil))))) (pda_nil)))))) (pda_nil)))))) (pds_one (pds_set (i := 4) (ps_set (i := 4) sc__law_some_text.nd rfl (.inl rfl) (pd_fn (ok__law_door_words T) (hr.mono (by decide)) (by rfl) T.g__law_door_words T.F__law_door_words.kp T.b__law_door_words pass0 (pda_cons (pd_fnJ (ok__law_some_door T) (hr.mono (by decide)) (by rfl) T.g__law_some_door T.F__law_some_door.kp T.b__law_some_door pass0 (pda_cons (pd_var (pv 0)) (pda_cons (pd_var (pv 2)) (pda_nil)))) (pda_nil))))))))))) (pds_cons (pds_for (tg := .one 3) PassesOwn.never rfl (pdi_rng1 (by rfl) T.m_range (pda_cons (pd_fnJ (ok__law_pull T) (hr.mono (by decide)) (by rfl) T.g__law_pull T.F__law_pull.kp T.b__law_pull pass0 (pda_cons (pd_var (pv 0)) (pda_cons (pd_int) (pda_nil)))) (pda_nil))) (pg_name (i := 3) sc__law_some_text.nd rfl (Or.inl rfl)) (pds_one (pds_set (i := 4) (ps_set (i := 4) sc__law_some_text.nd rfl (.inl rfl) (pd_meth PySem.F.slot_str_join PySem.F.type_str_join mt_joinD (pd_str) (pda_cons (pd_fnJ (ok__law_other_words T) (hr.mono (by decide)) (by rfl) T.g__law_other_words T.F__law_other_words.kp T.b__law_other_words pass0 (pda_cons (pd_var (pv 0)) (pda_cons (pd_meth PySem.F.slot_str_split PySem.F.type_str_split mt_splitD (pd_var (pv 4)) (pda_cons (pd_str) (pda_nil))) (pda_nil)))) (pda_nil))))))) (pds_one (pds_ret (pd_var (pv 4)))))))
abbrev N__law_text_read : List Str := ["reader", "world", "text", "parts"]
theorem sc__law_text_read : FnScope N__law_text_read ["reader", "world", "text"] (defScope s__law_text_read) := ⟨rfl, rfl, rfl, by decide +kernel, rfl, by decide +kernel, by decide +kernel⟩
theorem ok__law_text_read (T : Tx K mg) : FnOk P w K mg base CX0 5 T.f__law_text_read T.fd__law_text_read ["reader", "world", "text"] (spD K run__law_text_read) :=
  okD T.F__law_text_read sc__law_text_read rfl (fun cdv A outer s H E hr =>
    pds_cons (pds_set (i := 3) (ps_set (i := 3) sc__law_text_read.nd rfl (.inl rfl) (pd_meth PySem.F.slot_str_split PySem.F.type_str_split mt_splitD (pd_var (pv 2)) (pda_cons (pd_str) (pda_nil))))) (pds_cons (pds_if (pd_cmpT (op_eqDD hr.units) (pd_var (pv 0)) (pd_int) (nomark _)) (pds_one (pds_ret (pd_fn (ok__law_spots_read T) (hr.mono (by decide)) (by rfl) T.g__law_spots_read T.F__law_spots_read.kp T.b__law_spots_read pass0 (pda_cons (pd_var (pv 3)) (pda_cons (pd_int) (pda_cons (pd_callB call_lenD (by rfl) T.m_len PySem.boot_len (pda_cons (pd_var (pv 1)) (pda_nil))) (pda_cons (pd_bl) (pda_nil)))))))) (pds_nil)) (pds_cons (pds_if (pd_cmpT (op_eqDD hr.units) (pd_var (pv 0)) (pd_int) (nomark _)) (pds_one (pds_ret (pd_fn (ok__law_world_read T) (hr.mono (by decide)) (by rfl) T.g__law_world_read T.F__law_world_read.kp T.b__law_world_read pass0 (pda_cons (pd_var (pv 3)) (pda_cons (pd_int) (pda_nil)))))) (pds_nil)) (pds_cons (pds_if (pd_cmpT (op_eqDD hr.units) (pd_var (pv 0)) (pd_int) (nomark _)) (pds_one (pds_ret (pd_fn (ok__law_book_read T) (hr.mono (by decide)) (by rfl) T.g__law_book_read T.F__law_book_read.kp T.b__law_book_read pass0 (pda_cons (pd_var (pv 3)) (pda_nil))))) (pds_nil)) (pds_one (pds_ret (pd_fn (ok__law_gate_read T) (hr.mono (by decide)) (by rfl) T.g__law_gate_read T.F__law_gate_read.kp T.b__law_gate_read pass0 (pda_cons (pd_var (pv 3)) (pda_cons (pd_callB call_lenD (by rfl) T.m_len PySem.boot_len (pda_cons (pd_var (pv 1)) (pda_nil))) (pda_nil))))))))))
abbrev N_law : List Str := ["script", "cell", "jar", "world", "ground", "reader", "text", "spot"]
theorem sc_law : FnScope N_law ["script"] (defScope s_law) := ⟨rfl, rfl, rfl, by decide +kernel, rfl, by decide +kernel, by decide +kernel⟩
theorem ok_law (T : Tx K mg) : FnG P w K mg base CX0 7 T.f_law T.fd_law ["script"] (spLaw K run_law) :=
  okG T.F_law sc_law spLaw_len (fun vs H Q E h => runLaw_ok (E := E) h) (fun cdv A outer s H E hG hr =>
    pds_cons (pds_for (tg := .one 1) PassesOwn.never rfl (pdi_seq (pd_op op_addD (pd_lst (pda_cons (pd_op op_addD (pd_op op_powD (pd_int) (pd_int)) (pd_int)) (pda_nil))) (pd_scr (i := 0) (pv 0) (po_no) (po_part (pd_int))))) (pg_name (i := 1) sc_law.nd rfl (Or.inl rfl)) (pds_cons (pds_own (i := 2) (ps_set (i := 2) sc_law.nd rfl (.inl rfl) (pd_fn (ok__law_fill T) (hr.mono (by decide)) (by rfl) T.g__law_fill T.F__law_fill.kp T.b__law_fill pass0 (pda_cons (pd_var (pv 1)) (pda_nil))))) (pds_cons (pds_set (i := 3) (ps_set (i := 3) sc_law.nd rfl (.inl rfl) (pd_fnJ (ok__law_some_world T) (hr.mono (by decide)) (by rfl) T.g__law_some_world T.F__law_some_world.kp T.b__law_some_world pass0 (pda_cons (pd_var (pv 2)) (pda_cons (pd_int) (pda_nil)))))) (pds_cons (pds_set (i := 4) (ps_set (i := 4) sc_law.nd rfl (.inl rfl) (pd_var (pv 3)))) (pds_cons (pds_if (pd_cmpT (op_eqDD hr.units) (pd_fnJ (ok__law_pull T) (hr.mono (by decide)) (by rfl) T.g__law_pull T.F__law_pull.kp T.b__law_pull pass0 (pda_cons (pd_var (pv 2)) (pda_cons (pd_int) (pda_nil)))) (pd_int) (nomark _)) (pds_one (pds_set (i := 4) (ps_set (i := 4) sc_law.nd rfl (.inl rfl) (pd_fnJ (ok__law_some_world T) (hr.mono (by decide)) (by rfl) T.g__law_some_world T.F__law_some_world.kp T.b__law_some_world pass0 (pda_cons (pd_var (pv 2)) (pda_cons (pd_int) (pda_nil))))))) (pds_nil)) (pds_cons (pds_for (tg := .one 5) PassesOwn.never rfl (pdi_rng1 (by rfl) T.m_range (pda_cons (pd_int) (pda_nil))) (pg_name (i := 5) sc_law.nd rfl (Or.inl rfl)) (pds_cons (pds_set (i := 6) (ps_set (i := 6) sc_law.nd rfl (.inl rfl) (pd_fnJ (ok__law_some_text T) (hr.mono (by decide)) (by rfl) T.g__law_some_text T.F__law_some_text.kp T.b__law_some_text pass0 (pda_cons (pd_var (pv 2)) (pda_cons (pd_var (pv 5)) (pda_cons (pd_var (pv 3)) (pda_nil))))))) (pds_one (pds_if (pd_notT (pd_tru (pd_fnG (ok__law_same T) hG (hr.mono (by decide)) (by rfl) T.g__law_same T.F__law_same.kp T.b__law_same pass0 (pda_cons (pd_fn (ok__law_placed T) (hr.mono (by decide)) (by rfl) T.g__law_placed T.F__law_placed.kp T.b__law_placed pass0 (pda_cons (pd_var (pv 5)) (pda_cons (pd_var (pv 4)) (pda_cons (pd_var (pv 6)) (pda_nil))))) (pda_cons (pd_fn (ok__law_text_read T) (hr.mono (by decide)) (by rfl) T.g__law_text_read T.F__law_text_read.kp T.b__law_text_read pass0 (pda_cons (pd_var (pv 5)) (pda_cons (pd_var (pv 4)) (pda_cons (pd_var (pv 6)) (pda_nil))))) (pda_nil)))))) (pds_one (pds_ret (pd_bl))) (pds_nil))))) (pds_one (pds_if (PW.pt (pd_or (pd_cmpT (op_neDD hr.units) (pd_fn (ok__law_placed T) (hr.mono (by decide)) (by rfl) T.g__law_placed T.F__law_placed.kp T.b__law_placed pass0 (pda_cons (pd_int) (pda_cons (pd_var (pv 4)) (pda_cons (pd_str) (pda_nil))))) (pd_tup (pda_cons (pd_non) (pda_cons (pd_int) (pda_nil)))) (nomark _)) (pw_or1 (pd_cmpT (op_neDD hr.units) (pd_fn (ok__law_placed T) (hr.mono (by decide)) (by rfl) T.g__law_placed T.F__law_placed.kp T.b__law_placed pass0 (pda_cons (pd_int) (pda_cons (pd_var (pv 4)) (pda_cons (pd_str) (pda_nil))))) (pd_tup (pda_cons (pd_non) (pda_cons (pd_int) (pda_nil)))) (nomark _))))) (pds_one (pds_ret (pd_bl))) (pds_nil))))))))) (pds_cons (pds_set (i := 7) (ps_set (i := 7) sc_law.nd rfl (.inl rfl) (pd_scrLen (i := 0) (by rfl) T.m_len (pv 0)))) (pds_cons (pds_if (pd_cmpT (op_neDD hr.units) (pd_fn (ok__law_placed T) (hr.mono (by decide)) (by rfl) T.g__law_placed T.F__law_placed.kp T.b__law_placed pass0 (pda_cons (pd_int) (pda_cons (pd_tup (pda_cons (pd_non) (pda_nil))) (pda_cons (pd_op op_addD (pd_op op_mulSD (pd_str) (pd_int)) (pd_str)) (pda_nil))))) (pd_tup (pda_cons (pd_non) (pda_cons (pd_int) (pda_nil)))) (nomark _)) (pds_one (pds_ret (pd_bl))) (pds_nil)) (pds_one (pds_ret (pd_andV (pd_cmp (op_eqDD hr.units) (pd_fld T.f_place (pd_mkK T.o_InvalidWords T.ii_InvalidWords T.ti_InvalidWords T.no_InvalidWords T.n_InvalidWords (ok_init_InvalidWords T) (hr.mono (by decide)) T.bk_InvalidWords (by rfl) T.gc_InvalidWords (pdk_cons (pd_var (pv 7)) (pdk_nil)))) (pd_var (pv 7)) (nomark _)) (pe_one (pd_cmp (op_eqDD hr.units) (pd_fld T.f_place (pd_mk T.o_InvalidWords T.ii_InvalidWords T.ti_InvalidWords T.no_InvalidWords T.n_InvalidWords (ok_init_InvalidWords T) (hr.mono (by decide)) T.bi_InvalidWords rfl (by rfl) T.gc_InvalidWords (pda_cons (pd_var (pv 7)) (pda_nil)))) (pd_var (pv 7)) (nomark _)))))))))
end
end K75
set_option Elab.async false
set_option linter.all false
set_option maxRecDepth 100000
set_option maxHeartbeats 4000000
namespace K75
open PySem PySem.Spec PyProof.Rows L2 DD
theorem all_mk {l : PySem.W.OpenLaw} {w : World} {K : PySem.W.Frag} {h : Heap} {mg : Str → Option Value} {fa : Addr} (X : K.In h) (G : h.Ns mainGlobals mg) (hfa : mg "law" = some (.ref fa))
    {f0 f1 f2 f3 f4 f5 f6 f7 f8 f9 f10 f11 f12 f13 f14 f15 f16 f17 f18 f19 f20 f21 f22 f23 f24 f25 f26 f27 f28 f29 f30 f31 f32 f33 f34 f35 f36 f37 f38 f39 f40 f41 f42 : Addr}
    {od0 an0 od1 an1 od2 an2 od3 an3 od4 an4 od5 an5 od6 an6 od7 an7 od8 an8 od9 an9 od10 an10 od11 an11 od12 an12 od13 an13 od14 an14 od15 an15 od16 an16 od17 an17 od18 an18 od19 an19 od20 an20 od21 an21 od22 an22 od23 an23 od24 an24 od25 an25 od26 an26 od27 an27 od28 an28 od29 an29 od30 an30 od31 an31 od32 an32 od33 an33 od34 an34 od35 an35 od36 an36 od37 an37 od38 an38 od39 an39 od40 an40 od41 an41 od42 an42 : Option Addr} {sl0 sl1 sl2 sl3 sl4 sl5 sl6 sl7 sl8 sl9 sl10 sl11 sl12 sl13 sl14 sl15 sl16 sl17 sl18 sl19 sl20 sl21 sl22 sl23 sl24 sl25 sl26 sl27 sl28 sl29 sl30 sl31 sl32 sl33 sl34 sl35 sl36 sl37 sl38 sl39 sl40 sl41 sl42 : Array (Option Value)} {oc0 kV0 dc0 pm0 cd0 ct0 oc1 kV1 dc1 pm1 cd1 ct1 oc2 kV2 dc2 pm2 cd2 ct2 oc3 kV3 dc3 pm3 cd3 ct3 oc4 kV4 dc4 pm4 cd4 ct4 oc5 kV5 dc5 pm5 cd5 ct5 oc6 kV6 dc6 pm6 cd6 ct6 oc7 kV7 dc7 pm7 cd7 ct7 oc8 kV8 dc8 pm8 cd8 ct8 oc9 kV9 dc9 pm9 cd9 ct9 oc10 kV10 dc10 pm10 cd10 ct10 oc11 kV11 dc11 pm11 cd11 ct11 oc12 kV12 dc12 pm12 cd12 ct12 oc13 kV13 dc13 pm13 cd13 ct13 oc14 kV14 dc14 pm14 cd14 ct14 oc15 kV15 dc15 pm15 cd15 ct15 oc16 kV16 dc16 pm16 cd16 ct16 oc17 kV17 dc17 pm17 cd17 ct17 oc18 kV18 dc18 pm18 cd18 ct18 oc19 kV19 dc19 pm19 cd19 ct19 oc20 kV20 dc20 pm20 cd20 ct20 oc21 kV21 dc21 pm21 cd21 ct21 oc22 kV22 dc22 pm22 cd22 ct22 oc23 kV23 dc23 pm23 cd23 ct23 oc24 kV24 dc24 pm24 cd24 ct24 oc25 kV25 dc25 pm25 cd25 ct25 oc26 kV26 dc26 pm26 cd26 ct26 oc27 kV27 dc27 pm27 cd27 ct27 oc28 kV28 dc28 pm28 cd28 ct28 oc29 kV29 dc29 pm29 cd29 ct29 oc30 kV30 dc30 pm30 cd30 ct30 oc31 kV31 dc31 pm31 cd31 ct31 oc32 kV32 dc32 pm32 cd32 ct32 oc33 kV33 dc33 pm33 cd33 ct33 oc34 kV34 dc34 pm34 cd34 ct34 oc35 kV35 dc35 pm35 cd35 ct35 oc36 kV36 dc36 pm36 cd36 ct36 oc37 kV37 dc37 pm37 cd37 ct37 oc38 kV38 dc38 pm38 cd38 ct38 oc39 kV39 dc39 pm39 cd39 ct39 oc40 kV40 dc40 pm40 cd40 ct40 oc41 kV41 dc41 pm41 cd41 ct41 oc42 kV42 dc42 pm42 cd42 ct42 : Value}
    {t_LETTERS t_SIGNS : Tok}
    {c_WishError : Addr} (ac_WishError : PySem.W.nsIn K mainGlobals "WishError" = some (some (.ref c_WishError)))
    {c_InvalidTree : Addr} (ac_InvalidTree : PySem.W.nsIn K mainGlobals "InvalidTree" = some (some (.ref c_InvalidTree)))
    {c_InvalidLocale : Addr} (ac_InvalidLocale : PySem.W.nsIn K mainGlobals "InvalidLocale" = some (some (.ref c_InvalidLocale)))
    {c_InvalidWishes : Addr} (ac_InvalidWishes : PySem.W.nsIn K mainGlobals "InvalidWishes" = some (some (.ref c_InvalidWishes)))
    {c_InvalidWay : Addr} (ac_InvalidWay : PySem.W.nsIn K mainGlobals "InvalidWay" = some (some (.ref c_InvalidWay)))
    {c_InvalidCatalog : Addr} (ac_InvalidCatalog : PySem.W.nsIn K mainGlobals "InvalidCatalog" = some (some (.ref c_InvalidCatalog)))
    {c_InvalidKey : Addr} (ac_InvalidKey : PySem.W.nsIn K mainGlobals "InvalidKey" = some (some (.ref c_InvalidKey)))
    {c_InvalidText : Addr} (ac_InvalidText : PySem.W.nsIn K mainGlobals "InvalidText" = some (some (.ref c_InvalidText)))
    {c_InvalidPage : Addr} (ac_InvalidPage : PySem.W.nsIn K mainGlobals "InvalidPage" = some (some (.ref c_InvalidPage)))
    {c_InvalidDoor : Addr} (ac_InvalidDoor : PySem.W.nsIn K mainGlobals "InvalidDoor" = some (some (.ref c_InvalidDoor)))
    {c_InvalidChoice : Addr} (ac_InvalidChoice : PySem.W.nsIn K mainGlobals "InvalidChoice" = some (some (.ref c_InvalidChoice)))
    {c_InvalidIndex : Addr} (ac_InvalidIndex : PySem.W.nsIn K mainGlobals "InvalidIndex" = some (some (.ref c_InvalidIndex)))
    {c_Unlike : Addr} (ac_Unlike : PySem.W.nsIn K mainGlobals "Unlike" = some (some (.ref c_Unlike)))
    {c_Needless : Addr} (ac_Needless : PySem.W.nsIn K mainGlobals "Needless" = some (some (.ref c_Needless)))
    {c_NothingThere : Addr} (ac_NothingThere : PySem.W.nsIn K mainGlobals "NothingThere" = some (some (.ref c_NothingThere)))
    {c_NoBlock : Addr} (ac_NoBlock : PySem.W.nsIn K mainGlobals "NoBlock" = some (some (.ref c_NoBlock)))
    {c_NothingToUndo : Addr} (ac_NothingToUndo : PySem.W.nsIn K mainGlobals "NothingToUndo" = some (some (.ref c_NothingToUndo)))
    {c_InvalidCommand : Addr} (ac_InvalidCommand : PySem.W.nsIn K mainGlobals "InvalidCommand" = some (some (.ref c_InvalidCommand)))
    {c_Mixed : Addr} (ac_Mixed : PySem.W.nsIn K mainGlobals "Mixed" = some (some (.ref c_Mixed)))
    {c_InvalidWords : Addr} (ac_InvalidWords : PySem.W.nsIn K mainGlobals "InvalidWords" = some (some (.ref c_InvalidWords)))
    {fi_InvalidWords : Addr} {nm_InvalidWords qn_InvalidWords : Str} {N_InvalidWords : Addr} {bs_InvalidWords : List Value} {sn_InvalidWords : List Str} {sb_InvalidWords : List Value} {ab_InvalidWords : Bool} {col_InvalidWords : Option Bool} {dd_InvalidWords : Option Addr} {m0_InvalidWords m1_InvalidWords m2_InvalidWords m3_InvalidWords m5_InvalidWords : Option Value} {odi_InvalidWords ani_InvalidWords : Option Addr} {sli_InvalidWords : Array (Option Value)} {oci_InvalidWords kVi_InvalidWords dci_InvalidWords pmi_InvalidWords cdi_InvalidWords cti_InvalidWords : Value}
    (xl_InvalidWords : K.lookup c_InvalidWords = some (excClassObj nm_InvalidWords qn_InvalidWords c_InvalidWords N_InvalidWords bs_InvalidWords [.ref c_WishError, .type "ValueError", .type "Exception", .type "BaseException", .type "object"] true sn_InvalidWords sb_InvalidWords ab_InvalidWords col_InvalidWords dd_InvalidWords m0_InvalidWords m1_InvalidWords m2_InvalidWords m3_InvalidWords m5_InvalidWords "ValueError.__new__"))
    (sa_InvalidWords : PySem.W.findIn K (.ref c_InvalidWords) "__setattr__" = some (some (.builtin "object.__setattr__")))
    (ga_InvalidWords : PySem.W.findIn K (.ref c_InvalidWords) "__getattribute__" = some (some (.builtin "BaseException.__getattribute__")))
    (gg_InvalidWords : PySem.W.findIn K (.ref c_InvalidWords) "__getattr__" = some none)
    (no_InvalidWords : PySem.W.findIn K (.ref c_InvalidWords) "place" = some none)
    (ii_InvalidWords : PySem.W.findIn K (.ref c_InvalidWords) "__init__" = some (some (.ref fi_InvalidWords)))
    (ti_InvalidWords : PySem.W.typeIn K (.ref fi_InvalidWords) = some (.type "function"))
    (li_InvalidWords : K.lookup fi_InvalidWords = some ⟨oci_InvalidWords, odi_InvalidWords, .func (PySem.W.fnOf "__init__" "InvalidWords.__init__" (defArgs (clsS (topS 20) 0)) (defBody (clsS (topS 20) 0)) (defScope (clsS (topS 20) 0)) .none kVi_InvalidWords dci_InvalidWords pmi_InvalidWords ani_InvalidWords cdi_InvalidWords cti_InvalidWords), sli_InvalidWords⟩)
    (ci_InvalidWords : PySem.W.codeIn K cdi_InvalidWords "InvalidWords.__init__" = true)
    (ki_InvalidWords : PySem.W.keepIn K (.ref fi_InvalidWords) = true)
    (kC_InvalidWords : PySem.W.keepIn K (.ref c_InvalidWords) = true)
    (eC_InvalidWords : PySem.W.subIn K (.ref c_InvalidWords) (.type "BaseException") = some true)
    (tC_InvalidWords : PySem.W.typeIn K (.ref c_InvalidWords) = some (.type "type"))
    (hC_InvalidWords : PySem.W.hasDictIn K c_InvalidWords = true)
    (sC_InvalidWords : PySem.W.subIn K (.ref c_InvalidWords) (.ref c_InvalidWords) = some true)
    (ha_InvalidWords : PySem.W.findIn K (.ref c_InvalidWords) "__class__" = some (some (.builtin "object.__class__")))
    (hn_InvalidWords : PySem.W.specialIn K (.builtin "object.__class__") "__get__" = some (some (.builtin "getset_descriptor.__get__")))
    (ht_InvalidWords : PySem.W.takesIn K (.builtin "object.__class__") = some true)
    (hm_InvalidWords : PySem.W.mroIn K c_InvalidWords (.type "object") = some true)
    (rd_InvalidWords : PySem.W.readsIn K c_WishError (.type "type") = true)
    (sp_InvalidWords : PySem.W.specialIn K (.ref c_WishError) "__getattribute__" = some (some (.builtin "type.__getattribute__")))
    (v_InvalidWords : PySem.W.findCls K (.ref c_WishError) (.type "type") "__init__" = some (.val (.builtin "ValueError.__init__")))
    (kInvalidCatalog_InvalidWords : PySem.W.kitOne K (.ref c_InvalidWords) (.ref c_InvalidCatalog) = some false)
    (kInvalidChoice_InvalidWords : PySem.W.kitOne K (.ref c_InvalidWords) (.ref c_InvalidChoice) = some false)
    (kInvalidCommand_InvalidWords : PySem.W.kitOne K (.ref c_InvalidWords) (.ref c_InvalidCommand) = some false)
    (kInvalidDoor_InvalidWords : PySem.W.kitOne K (.ref c_InvalidWords) (.ref c_InvalidDoor) = some false)
    (kInvalidIndex_InvalidWords : PySem.W.kitOne K (.ref c_InvalidWords) (.ref c_InvalidIndex) = some false)
    (kInvalidKey_InvalidWords : PySem.W.kitOne K (.ref c_InvalidWords) (.ref c_InvalidKey) = some false)
    (kInvalidLocale_InvalidWords : PySem.W.kitOne K (.ref c_InvalidWords) (.ref c_InvalidLocale) = some false)
    (kInvalidPage_InvalidWords : PySem.W.kitOne K (.ref c_InvalidWords) (.ref c_InvalidPage) = some false)
    (kInvalidText_InvalidWords : PySem.W.kitOne K (.ref c_InvalidWords) (.ref c_InvalidText) = some false)
    (kInvalidTree_InvalidWords : PySem.W.kitOne K (.ref c_InvalidWords) (.ref c_InvalidTree) = some false)
    (kInvalidWay_InvalidWords : PySem.W.kitOne K (.ref c_InvalidWords) (.ref c_InvalidWay) = some false)
    (kInvalidWishes_InvalidWords : PySem.W.kitOne K (.ref c_InvalidWords) (.ref c_InvalidWishes) = some false)
    (kInvalidWords_InvalidWords : PySem.W.kitOne K (.ref c_InvalidWords) (.ref c_InvalidWords) = some true)
    (kMixed_InvalidWords : PySem.W.kitOne K (.ref c_InvalidWords) (.ref c_Mixed) = some false)
    (kNeedless_InvalidWords : PySem.W.kitOne K (.ref c_InvalidWords) (.ref c_Needless) = some false)
    (kNoBlock_InvalidWords : PySem.W.kitOne K (.ref c_InvalidWords) (.ref c_NoBlock) = some false)
    (kNothingThere_InvalidWords : PySem.W.kitOne K (.ref c_InvalidWords) (.ref c_NothingThere) = some false)
    (kNothingToUndo_InvalidWords : PySem.W.kitOne K (.ref c_InvalidWords) (.ref c_NothingToUndo) = some false)
    (kUnlike_InvalidWords : PySem.W.kitOne K (.ref c_InvalidWords) (.ref c_Unlike) = some false)
    (kValueError_InvalidWords : PySem.W.kitOne K (.ref c_InvalidWords) (.type "ValueError") = some true)
    (kWishError_InvalidWords : PySem.W.kitOne K (.ref c_InvalidWords) (.ref c_WishError) = some true)
    (a0 : PySem.W.nsIn K mainGlobals "is_integer" = some (some (.ref f0))) (l0 : K.lookup f0 = some ⟨oc0, od0, .func (PySem.W.fnOf "is_integer" "is_integer" (defArgs s_is_integer) (defBody s_is_integer) (defScope s_is_integer) .none kV0 dc0 pm0 an0 cd0 ct0), sl0⟩) (c0 : PySem.W.codeIn K cd0 "is_integer" = true) (k0 : PySem.W.keepIn K (.ref f0) = true)
    (a1 : PySem.W.nsIn K mainGlobals "is_tree" = some (some (.ref f1))) (l1 : K.lookup f1 = some ⟨oc1, od1, .func (PySem.W.fnOf "is_tree" "is_tree" (defArgs s_is_tree) (defBody s_is_tree) (defScope s_is_tree) .none kV1 dc1 pm1 an1 cd1 ct1), sl1⟩) (c1 : PySem.W.codeIn K cd1 "is_tree" = true) (k1 : PySem.W.keepIn K (.ref f1) = true)
    (a2 : PySem.W.nsIn K mainGlobals "need_tree" = some (some (.ref f2))) (l2 : K.lookup f2 = some ⟨oc2, od2, .func (PySem.W.fnOf "need_tree" "need_tree" (defArgs s_need_tree) (defBody s_need_tree) (defScope s_need_tree) .none kV2 dc2 pm2 an2 cd2 ct2), sl2⟩) (c2 : PySem.W.codeIn K cd2 "need_tree" = true) (k2 : PySem.W.keepIn K (.ref f2) = true)
    (a3 : PySem.W.nsIn K mainGlobals "is_way" = some (some (.ref f3))) (l3 : K.lookup f3 = some ⟨oc3, od3, .func (PySem.W.fnOf "is_way" "is_way" (defArgs s_is_way) (defBody s_is_way) (defScope s_is_way) .none kV3 dc3 pm3 an3 cd3 ct3), sl3⟩) (c3 : PySem.W.codeIn K cd3 "is_way" = true) (k3 : PySem.W.keepIn K (.ref f3) = true)
    (a4 : PySem.W.nsIn K mainGlobals "locale_read" = some (some (.ref f4))) (l4 : K.lookup f4 = some ⟨oc4, od4, .func (PySem.W.fnOf "locale_read" "locale_read" (defArgs s_locale_read) (defBody s_locale_read) (defScope s_locale_read) .none kV4 dc4 pm4 an4 cd4 ct4), sl4⟩) (c4 : PySem.W.codeIn K cd4 "locale_read" = true) (k4 : PySem.W.keepIn K (.ref f4) = true)
    (a5 : PySem.W.nsIn K mainGlobals "row_read" = some (some (.ref f5))) (l5 : K.lookup f5 = some ⟨oc5, od5, .func (PySem.W.fnOf "row_read" "row_read" (defArgs s_row_read) (defBody s_row_read) (defScope s_row_read) .none kV5 dc5 pm5 an5 cd5 ct5), sl5⟩) (c5 : PySem.W.codeIn K cd5 "row_read" = true) (k5 : PySem.W.keepIn K (.ref f5) = true)
    (a6 : PySem.W.nsIn K mainGlobals "none_written" = some (some (.ref f6))) (l6 : K.lookup f6 = some ⟨oc6, od6, .func (PySem.W.fnOf "none_written" "none_written" (defArgs s_none_written) (defBody s_none_written) (defScope s_none_written) .none kV6 dc6 pm6 an6 cd6 ct6), sl6⟩) (c6 : PySem.W.codeIn K cd6 "none_written" = true) (k6 : PySem.W.keepIn K (.ref f6) = true)
    (a7 : PySem.W.nsIn K mainGlobals "locales_read" = some (some (.ref f7))) (l7 : K.lookup f7 = some ⟨oc7, od7, .func (PySem.W.fnOf "locales_read" "locales_read" (defArgs s_locales_read) (defBody s_locales_read) (defScope s_locales_read) .none kV7 dc7 pm7 an7 cd7 ct7), sl7⟩) (c7 : PySem.W.codeIn K cd7 "locales_read" = true) (k7 : PySem.W.keepIn K (.ref f7) = true)
    (a8 : PySem.W.nsIn K mainGlobals "pairs_read" = some (some (.ref f8))) (l8 : K.lookup f8 = some ⟨oc8, od8, .func (PySem.W.fnOf "pairs_read" "pairs_read" (defArgs s_pairs_read) (defBody s_pairs_read) (defScope s_pairs_read) .none kV8 dc8 pm8 an8 cd8 ct8), sl8⟩) (c8 : PySem.W.codeIn K cd8 "pairs_read" = true) (k8 : PySem.W.keepIn K (.ref f8) = true)
    (a9 : PySem.W.nsIn K mainGlobals "parents_read" = some (some (.ref f9))) (l9 : K.lookup f9 = some ⟨oc9, od9, .func (PySem.W.fnOf "parents_read" "parents_read" (defArgs s_parents_read) (defBody s_parents_read) (defScope s_parents_read) .none kV9 dc9 pm9 an9 cd9 ct9), sl9⟩) (c9 : PySem.W.codeIn K cd9 "parents_read" = true) (k9 : PySem.W.keepIn K (.ref f9) = true)
    (a10 : PySem.W.nsIn K mainGlobals "rows_read" = some (some (.ref f10))) (l10 : K.lookup f10 = some ⟨oc10, od10, .func (PySem.W.fnOf "rows_read" "rows_read" (defArgs s_rows_read) (defBody s_rows_read) (defScope s_rows_read) .none kV10 dc10 pm10 an10 cd10 ct10), sl10⟩) (c10 : PySem.W.codeIn K cd10 "rows_read" = true) (k10 : PySem.W.keepIn K (.ref f10) = true)
    (a11 : PySem.W.nsIn K mainGlobals "read_wishes" = some (some (.ref f11))) (l11 : K.lookup f11 = some ⟨oc11, od11, .func (PySem.W.fnOf "read_wishes" "read_wishes" (defArgs s_read_wishes) (defBody s_read_wishes) (defScope s_read_wishes) .none kV11 dc11 pm11 an11 cd11 ct11), sl11⟩) (c11 : PySem.W.codeIn K cd11 "read_wishes" = true) (k11 : PySem.W.keepIn K (.ref f11) = true)
    (a12 : PySem.W.nsIn K mainGlobals "read_tree" = some (some (.ref f12))) (l12 : K.lookup f12 = some ⟨oc12, od12, .func (PySem.W.fnOf "read_tree" "read_tree" (defArgs s_read_tree) (defBody s_read_tree) (defScope s_read_tree) .none kV12 dc12 pm12 an12 cd12 ct12), sl12⟩) (c12 : PySem.W.codeIn K cd12 "read_tree" = true) (k12 : PySem.W.keepIn K (.ref f12) = true)
    (a13 : PySem.W.nsIn K mainGlobals "read_catalog" = some (some (.ref f13))) (l13 : K.lookup f13 = some ⟨oc13, od13, .func (PySem.W.fnOf "read_catalog" "read_catalog" (defArgs s_read_catalog) (defBody s_read_catalog) (defScope s_read_catalog) .none kV13 dc13 pm13 an13 cd13 ct13), sl13⟩) (c13 : PySem.W.codeIn K cd13 "read_catalog" = true) (k13 : PySem.W.keepIn K (.ref f13) = true)
    (a14 : PySem.W.nsIn K mainGlobals "read_door" = some (some (.ref f14))) (l14 : K.lookup f14 = some ⟨oc14, od14, .func (PySem.W.fnOf "read_door" "read_door" (defArgs s_read_door) (defBody s_read_door) (defScope s_read_door) .none kV14 dc14 pm14 an14 cd14 ct14), sl14⟩) (c14 : PySem.W.codeIn K cd14 "read_door" = true) (k14 : PySem.W.keepIn K (.ref f14) = true)
    (a15 : PySem.W.nsIn K mainGlobals "_law_pull" = some (some (.ref f15))) (l15 : K.lookup f15 = some ⟨oc15, od15, .func (PySem.W.fnOf "_law_pull" "_law_pull" (defArgs s__law_pull) (defBody s__law_pull) (defScope s__law_pull) .none kV15 dc15 pm15 an15 cd15 ct15), sl15⟩) (c15 : PySem.W.codeIn K cd15 "_law_pull" = true) (k15 : PySem.W.keepIn K (.ref f15) = true)
    (a16 : PySem.W.nsIn K mainGlobals "_law_other_word" = some (some (.ref f16))) (l16 : K.lookup f16 = some ⟨oc16, od16, .func (PySem.W.fnOf "_law_other_word" "_law_other_word" (defArgs s__law_other_word) (defBody s__law_other_word) (defScope s__law_other_word) .none kV16 dc16 pm16 an16 cd16 ct16), sl16⟩) (c16 : PySem.W.codeIn K cd16 "_law_other_word" = true) (k16 : PySem.W.keepIn K (.ref f16) = true)
    (a17 : PySem.W.nsIn K mainGlobals "_law_letters" = some (some (.ref f17))) (l17 : K.lookup f17 = some ⟨oc17, od17, .func (PySem.W.fnOf "_law_letters" "_law_letters" (defArgs s__law_letters) (defBody s__law_letters) (defScope s__law_letters) .none kV17 dc17 pm17 an17 cd17 ct17), sl17⟩) (c17 : PySem.W.codeIn K cd17 "_law_letters" = true) (k17 : PySem.W.keepIn K (.ref f17) = true)
    (a18 : PySem.W.nsIn K mainGlobals "_law_up" = some (some (.ref f18))) (l18 : K.lookup f18 = some ⟨oc18, od18, .func (PySem.W.fnOf "_law_up" "_law_up" (defArgs s__law_up) (defBody s__law_up) (defScope s__law_up) .none kV18 dc18 pm18 an18 cd18 ct18), sl18⟩) (c18 : PySem.W.codeIn K cd18 "_law_up" = true) (k18 : PySem.W.keepIn K (.ref f18) = true)
    (a19 : PySem.W.nsIn K mainGlobals "_law_some_asks" = some (some (.ref f19))) (l19 : K.lookup f19 = some ⟨oc19, od19, .func (PySem.W.fnOf "_law_some_asks" "_law_some_asks" (defArgs s__law_some_asks) (defBody s__law_some_asks) (defScope s__law_some_asks) .none kV19 dc19 pm19 an19 cd19 ct19), sl19⟩) (c19 : PySem.W.codeIn K cd19 "_law_some_asks" = true) (k19 : PySem.W.keepIn K (.ref f19) = true)
    (a20 : PySem.W.nsIn K mainGlobals "_law_world_words" = some (some (.ref f20))) (l20 : K.lookup f20 = some ⟨oc20, od20, .func (PySem.W.fnOf "_law_world_words" "_law_world_words" (defArgs s__law_world_words) (defBody s__law_world_words) (defScope s__law_world_words) .none kV20 dc20 pm20 an20 cd20 ct20), sl20⟩) (c20 : PySem.W.codeIn K cd20 "_law_world_words" = true) (k20 : PySem.W.keepIn K (.ref f20) = true)
    (a21 : PySem.W.nsIn K mainGlobals "_law_word_of" = some (some (.ref f21))) (l21 : K.lookup f21 = some ⟨oc21, od21, .func (PySem.W.fnOf "_law_word_of" "_law_word_of" (defArgs s__law_word_of) (defBody s__law_word_of) (defScope s__law_word_of) .none kV21 dc21 pm21 an21 cd21 ct21), sl21⟩) (c21 : PySem.W.codeIn K cd21 "_law_word_of" = true) (k21 : PySem.W.keepIn K (.ref f21) = true)
    (a22 : PySem.W.nsIn K mainGlobals "_law_book_words" = some (some (.ref f22))) (l22 : K.lookup f22 = some ⟨oc22, od22, .func (PySem.W.fnOf "_law_book_words" "_law_book_words" (defArgs s__law_book_words) (defBody s__law_book_words) (defScope s__law_book_words) .none kV22 dc22 pm22 an22 cd22 ct22), sl22⟩) (c22 : PySem.W.codeIn K cd22 "_law_book_words" = true) (k22 : PySem.W.keepIn K (.ref f22) = true)
    (a23 : PySem.W.nsIn K mainGlobals "_law_some_book" = some (some (.ref f23))) (l23 : K.lookup f23 = some ⟨oc23, od23, .func (PySem.W.fnOf "_law_some_book" "_law_some_book" (defArgs s__law_some_book) (defBody s__law_some_book) (defScope s__law_some_book) .none kV23 dc23 pm23 an23 cd23 ct23), sl23⟩) (c23 : PySem.W.codeIn K cd23 "_law_some_book" = true) (k23 : PySem.W.keepIn K (.ref f23) = true)
    (a24 : PySem.W.nsIn K mainGlobals "_law_some_mode" = some (some (.ref f24))) (l24 : K.lookup f24 = some ⟨oc24, od24, .func (PySem.W.fnOf "_law_some_mode" "_law_some_mode" (defArgs s__law_some_mode) (defBody s__law_some_mode) (defScope s__law_some_mode) .none kV24 dc24 pm24 an24 cd24 ct24), sl24⟩) (c24 : PySem.W.codeIn K cd24 "_law_some_mode" = true) (k24 : PySem.W.keepIn K (.ref f24) = true)
    (a25 : PySem.W.nsIn K mainGlobals "_law_door_words" = some (some (.ref f25))) (l25 : K.lookup f25 = some ⟨oc25, od25, .func (PySem.W.fnOf "_law_door_words" "_law_door_words" (defArgs s__law_door_words) (defBody s__law_door_words) (defScope s__law_door_words) .none kV25 dc25 pm25 an25 cd25 ct25), sl25⟩) (c25 : PySem.W.codeIn K cd25 "_law_door_words" = true) (k25 : PySem.W.keepIn K (.ref f25) = true)
    (a26 : PySem.W.nsIn K mainGlobals "_law_some_door" = some (some (.ref f26))) (l26 : K.lookup f26 = some ⟨oc26, od26, .func (PySem.W.fnOf "_law_some_door" "_law_some_door" (defArgs s__law_some_door) (defBody s__law_some_door) (defScope s__law_some_door) .none kV26 dc26 pm26 an26 cd26 ct26), sl26⟩) (c26 : PySem.W.codeIn K cd26 "_law_some_door" = true) (k26 : PySem.W.keepIn K (.ref f26) = true)
    (a27 : PySem.W.nsIn K mainGlobals "_law_other_words" = some (some (.ref f27))) (l27 : K.lookup f27 = some ⟨oc27, od27, .func (PySem.W.fnOf "_law_other_words" "_law_other_words" (defArgs s__law_other_words) (defBody s__law_other_words) (defScope s__law_other_words) .none kV27 dc27 pm27 an27 cd27 ct27), sl27⟩) (c27 : PySem.W.codeIn K cd27 "_law_other_words" = true) (k27 : PySem.W.keepIn K (.ref f27) = true)
    (a28 : PySem.W.nsIn K mainGlobals "_law_letter" = some (some (.ref f28))) (l28 : K.lookup f28 = some ⟨oc28, od28, .func (PySem.W.fnOf "_law_letter" "_law_letter" (defArgs s__law_letter) (defBody s__law_letter) (defScope s__law_letter) .none kV28 dc28 pm28 an28 cd28 ct28), sl28⟩) (c28 : PySem.W.codeIn K cd28 "_law_letter" = true) (k28 : PySem.W.keepIn K (.ref f28) = true)
    (a29 : PySem.W.nsIn K mainGlobals "_law_spots_read" = some (some (.ref f29))) (l29 : K.lookup f29 = some ⟨oc29, od29, .func (PySem.W.fnOf "_law_spots_read" "_law_spots_read" (defArgs s__law_spots_read) (defBody s__law_spots_read) (defScope s__law_spots_read) .none kV29 dc29 pm29 an29 cd29 ct29), sl29⟩) (c29 : PySem.W.codeIn K cd29 "_law_spots_read" = true) (k29 : PySem.W.keepIn K (.ref f29) = true)
    (a30 : PySem.W.nsIn K mainGlobals "_law_world_read" = some (some (.ref f30))) (l30 : K.lookup f30 = some ⟨oc30, od30, .func (PySem.W.fnOf "_law_world_read" "_law_world_read" (defArgs s__law_world_read) (defBody s__law_world_read) (defScope s__law_world_read) .none kV30 dc30 pm30 an30 cd30 ct30), sl30⟩) (c30 : PySem.W.codeIn K cd30 "_law_world_read" = true) (k30 : PySem.W.keepIn K (.ref f30) = true)
    (a31 : PySem.W.nsIn K mainGlobals "_law_row_read" = some (some (.ref f31))) (l31 : K.lookup f31 = some ⟨oc31, od31, .func (PySem.W.fnOf "_law_row_read" "_law_row_read" (defArgs s__law_row_read) (defBody s__law_row_read) (defScope s__law_row_read) .none kV31 dc31 pm31 an31 cd31 ct31), sl31⟩) (c31 : PySem.W.codeIn K cd31 "_law_row_read" = true) (k31 : PySem.W.keepIn K (.ref f31) = true)
    (a32 : PySem.W.nsIn K mainGlobals "_law_book_read" = some (some (.ref f32))) (l32 : K.lookup f32 = some ⟨oc32, od32, .func (PySem.W.fnOf "_law_book_read" "_law_book_read" (defArgs s__law_book_read) (defBody s__law_book_read) (defScope s__law_book_read) .none kV32 dc32 pm32 an32 cd32 ct32), sl32⟩) (c32 : PySem.W.codeIn K cd32 "_law_book_read" = true) (k32 : PySem.W.keepIn K (.ref f32) = true)
    (a33 : PySem.W.nsIn K mainGlobals "_law_pairs_read" = some (some (.ref f33))) (l33 : K.lookup f33 = some ⟨oc33, od33, .func (PySem.W.fnOf "_law_pairs_read" "_law_pairs_read" (defArgs s__law_pairs_read) (defBody s__law_pairs_read) (defScope s__law_pairs_read) .none kV33 dc33 pm33 an33 cd33 ct33), sl33⟩) (c33 : PySem.W.codeIn K cd33 "_law_pairs_read" = true) (k33 : PySem.W.keepIn K (.ref f33) = true)
    (a34 : PySem.W.nsIn K mainGlobals "_law_gate_read" = some (some (.ref f34))) (l34 : K.lookup f34 = some ⟨oc34, od34, .func (PySem.W.fnOf "_law_gate_read" "_law_gate_read" (defArgs s__law_gate_read) (defBody s__law_gate_read) (defScope s__law_gate_read) .none kV34 dc34 pm34 an34 cd34 ct34), sl34⟩) (c34 : PySem.W.codeIn K cd34 "_law_gate_read" = true) (k34 : PySem.W.keepIn K (.ref f34) = true)
    (a35 : PySem.W.nsIn K mainGlobals "_law_fill" = some (some (.ref f35))) (l35 : K.lookup f35 = some ⟨oc35, od35, .func (PySem.W.fnOf "_law_fill" "_law_fill" (defArgs s__law_fill) (defBody s__law_fill) (defScope s__law_fill) .none kV35 dc35 pm35 an35 cd35 ct35), sl35⟩) (c35 : PySem.W.codeIn K cd35 "_law_fill" = true) (k35 : PySem.W.keepIn K (.ref f35) = true)
    (a36 : PySem.W.nsIn K mainGlobals "_law_some_world" = some (some (.ref f36))) (l36 : K.lookup f36 = some ⟨oc36, od36, .func (PySem.W.fnOf "_law_some_world" "_law_some_world" (defArgs s__law_some_world) (defBody s__law_some_world) (defScope s__law_some_world) .none kV36 dc36 pm36 an36 cd36 ct36), sl36⟩) (c36 : PySem.W.codeIn K cd36 "_law_some_world" = true) (k36 : PySem.W.keepIn K (.ref f36) = true)
    (a37 : PySem.W.nsIn K mainGlobals "_law_same" = some (some (.ref f37))) (l37 : K.lookup f37 = some ⟨oc37, od37, .func (PySem.W.fnOf "_law_same" "_law_same" (defArgs s__law_same) (defBody s__law_same) (defScope s__law_same) .none kV37 dc37 pm37 an37 cd37 ct37), sl37⟩) (c37 : PySem.W.codeIn K cd37 "_law_same" = true) (k37 : PySem.W.keepIn K (.ref f37) = true)
    (a38 : PySem.W.nsIn K mainGlobals "_law_stands_under" = some (some (.ref f38))) (l38 : K.lookup f38 = some ⟨oc38, od38, .func (PySem.W.fnOf "_law_stands_under" "_law_stands_under" (defArgs s__law_stands_under) (defBody s__law_stands_under) (defScope s__law_stands_under) .none kV38 dc38 pm38 an38 cd38 ct38), sl38⟩) (c38 : PySem.W.codeIn K cd38 "_law_stands_under" = true) (k38 : PySem.W.keepIn K (.ref f38) = true)
    (a39 : PySem.W.nsIn K mainGlobals "_law_placed" = some (some (.ref f39))) (l39 : K.lookup f39 = some ⟨oc39, od39, .func (PySem.W.fnOf "_law_placed" "_law_placed" (defArgs s__law_placed) (defBody s__law_placed) (defScope s__law_placed) .none kV39 dc39 pm39 an39 cd39 ct39), sl39⟩) (c39 : PySem.W.codeIn K cd39 "_law_placed" = true) (k39 : PySem.W.keepIn K (.ref f39) = true)
    (a40 : PySem.W.nsIn K mainGlobals "_law_some_text" = some (some (.ref f40))) (l40 : K.lookup f40 = some ⟨oc40, od40, .func (PySem.W.fnOf "_law_some_text" "_law_some_text" (defArgs s__law_some_text) (defBody s__law_some_text) (defScope s__law_some_text) .none kV40 dc40 pm40 an40 cd40 ct40), sl40⟩) (c40 : PySem.W.codeIn K cd40 "_law_some_text" = true) (k40 : PySem.W.keepIn K (.ref f40) = true)
    (a41 : PySem.W.nsIn K mainGlobals "_law_text_read" = some (some (.ref f41))) (l41 : K.lookup f41 = some ⟨oc41, od41, .func (PySem.W.fnOf "_law_text_read" "_law_text_read" (defArgs s__law_text_read) (defBody s__law_text_read) (defScope s__law_text_read) .none kV41 dc41 pm41 an41 cd41 ct41), sl41⟩) (c41 : PySem.W.codeIn K cd41 "_law_text_read" = true) (k41 : PySem.W.keepIn K (.ref f41) = true)
    (a42 : PySem.W.nsIn K mainGlobals "law" = some (some (.ref f42))) (l42 : K.lookup f42 = some ⟨oc42, od42, .func (PySem.W.fnOf "law" "law" (defArgs s_law) (defBody s_law) (defScope s_law) .none kV42 dc42 pm42 an42 cd42 ct42), sl42⟩) (c42 : PySem.W.codeIn K cd42 "law" = true) (k42 : PySem.W.keepIn K (.ref f42) = true)
    (z_ValueError : PySem.W.nsIn K mainGlobals "ValueError" = some none)
    (z_bool : PySem.W.nsIn K mainGlobals "bool" = some none)
    (z_int : PySem.W.nsIn K mainGlobals "int" = some none)
    (z_isinstance : PySem.W.nsIn K mainGlobals "isinstance" = some none)
    (z_len : PySem.W.nsIn K mainGlobals "len" = some none)
    (z_list : PySem.W.nsIn K mainGlobals "list" = some none)
    (z_max : PySem.W.nsIn K mainGlobals "max" = some none)
    (z_min : PySem.W.nsIn K mainGlobals "min" = some none)
    (z_range : PySem.W.nsIn K mainGlobals "range" = some none)
    (z_repr : PySem.W.nsIn K mainGlobals "repr" = some none)
    (z_str : PySem.W.nsIn K mainGlobals "str" = some none)
    (z_tuple : PySem.W.nsIn K mainGlobals "tuple" = some none)
    (y_LETTERS : PySem.W.nsIn K mainGlobals "LETTERS" = some (some (.str "abcdefghij" t_LETTERS)))
    (y_SIGNS : PySem.W.nsIn K mainGlobals "SIGNS" = some (some (.str "0123456789-" t_SIGNS)))
    : ∃ fd : FuncData, (∀ (s : Shared) (v : Value), BindsTo s fd ⟨[v], []⟩ [("script", v)]) ∧ ∀ base : Heap, K.In base → base.Ns mainGlobals mg → FnG l.prog w K mg base CX0 7 fa fd ["script"] (spLaw K run_law) := by
  have e : fa = f42 := by
    have e := hfa.symm.trans (PySem.W.mg_of X G a42)
    cases e
    rfl
  have F0 := fun_mk (st := s_is_integer) l0 c0 k0
  have F1 := fun_mk (st := s_is_tree) l1 c1 k1
  have F2 := fun_mk (st := s_need_tree) l2 c2 k2
  have F3 := fun_mk (st := s_is_way) l3 c3 k3
  have F4 := fun_mk (st := s_locale_read) l4 c4 k4
  have F5 := fun_mk (st := s_row_read) l5 c5 k5
  have F6 := fun_mk (st := s_none_written) l6 c6 k6
  have F7 := fun_mk (st := s_locales_read) l7 c7 k7
  have F8 := fun_mk (st := s_pairs_read) l8 c8 k8
  have F9 := fun_mk (st := s_parents_read) l9 c9 k9
  have F10 := fun_mk (st := s_rows_read) l10 c10 k10
  have F11 := fun_mk (st := s_read_wishes) l11 c11 k11
  have F12 := fun_mk (st := s_read_tree) l12 c12 k12
  have F13 := fun_mk (st := s_read_catalog) l13 c13 k13
  have F14 := fun_mk (st := s_read_door) l14 c14 k14
  have F15 := fun_mk (st := s__law_pull) l15 c15 k15
  have F16 := fun_mk (st := s__law_other_word) l16 c16 k16
  have F17 := fun_mk (st := s__law_letters) l17 c17 k17
  have F18 := fun_mk (st := s__law_up) l18 c18 k18
  have F19 := fun_mk (st := s__law_some_asks) l19 c19 k19
  have F20 := fun_mk (st := s__law_world_words) l20 c20 k20
  have F21 := fun_mk (st := s__law_word_of) l21 c21 k21
  have F22 := fun_mk (st := s__law_book_words) l22 c22 k22
  have F23 := fun_mk (st := s__law_some_book) l23 c23 k23
  have F24 := fun_mk (st := s__law_some_mode) l24 c24 k24
  have F25 := fun_mk (st := s__law_door_words) l25 c25 k25
  have F26 := fun_mk (st := s__law_some_door) l26 c26 k26
  have F27 := fun_mk (st := s__law_other_words) l27 c27 k27
  have F28 := fun_mk (st := s__law_letter) l28 c28 k28
  have F29 := fun_mk (st := s__law_spots_read) l29 c29 k29
  have F30 := fun_mk (st := s__law_world_read) l30 c30 k30
  have F31 := fun_mk (st := s__law_row_read) l31 c31 k31
  have F32 := fun_mk (st := s__law_book_read) l32 c32 k32
  have F33 := fun_mk (st := s__law_pairs_read) l33 c33 k33
  have F34 := fun_mk (st := s__law_gate_read) l34 c34 k34
  have F35 := fun_mk (st := s__law_fill) l35 c35 k35
  have F36 := fun_mk (st := s__law_some_world) l36 c36 k36
  have F37 := fun_mk (st := s__law_same) l37 c37 k37
  have F38 := fun_mk (st := s__law_stands_under) l38 c38 k38
  have F39 := fun_mk (st := s__law_placed) l39 c39 k39
  have F40 := fun_mk (st := s__law_some_text) l40 c40 k40
  have F41 := fun_mk (st := s__law_text_read) l41 c41 k41
  have F42 := fun_mk (st := s_law) l42 c42 k42
  have b0 := F0.binds (ps := ["value"]) fun _ _ _ _ _ _ us hl => match us, hl with | [_], _ => rfl
  have b1 := F1.binds (ps := ["value"]) fun _ _ _ _ _ _ us hl => match us, hl with | [_], _ => rfl
  have b2 := F2.binds (ps := ["tree"]) fun _ _ _ _ _ _ us hl => match us, hl with | [_], _ => rfl
  have b3 := F3.binds (ps := ["value"]) fun _ _ _ _ _ _ us hl => match us, hl with | [_], _ => rfl
  have b4 := F4.binds (ps := ["word", "count"]) fun _ _ _ _ _ _ us hl => match us, hl with | [_, _], _ => rfl
  have b5 := F5.binds (ps := ["word"]) fun _ _ _ _ _ _ us hl => match us, hl with | [_], _ => rfl
  have b6 := F6.binds (ps := ["parts", "first"]) fun _ _ _ _ _ _ us hl => match us, hl with | [_, _], _ => rfl
  have b7 := F7.binds (ps := ["parts", "first", "count", "rising"]) fun _ _ _ _ _ _ us hl => match us, hl with | [_, _, _, _], _ => rfl
  have b8 := F8.binds (ps := ["parts", "first", "count"]) fun _ _ _ _ _ _ us hl => match us, hl with | [_, _, _], _ => rfl
  have b9 := F9.binds (ps := ["parts", "first", "last"]) fun _ _ _ _ _ _ us hl => match us, hl with | [_, _, _], _ => rfl
  have b10 := F10.binds (ps := ["parts", "first", "count"]) fun _ _ _ _ _ _ us hl => match us, hl with | [_, _, _], _ => rfl
  have b11 := F11.binds (ps := ["tree", "words"]) fun _ _ _ _ _ _ us hl => match us, hl with | [_, _], _ => rfl
  have b12 := F12.binds (ps := ["words"]) fun _ _ _ _ _ _ us hl => match us, hl with | [_], _ => rfl
  have b13 := F13.binds (ps := ["words"]) fun _ _ _ _ _ _ us hl => match us, hl with | [_], _ => rfl
  have b14 := F14.binds (ps := ["tree", "words"]) fun _ _ _ _ _ _ us hl => match us, hl with | [_, _], _ => rfl
  have b15 := F15.binds (ps := ["jar", "size"]) fun _ _ _ _ _ _ us hl => match us, hl with | [_, _], _ => rfl
  have b16 := F16.binds (ps := ["jar", "word"]) fun _ _ _ _ _ _ us hl => match us, hl with | [_, _], _ => rfl
  have b17 := F17.binds (ps := ["spots"]) fun _ _ _ _ _ _ us hl => match us, hl with | [_], _ => rfl
  have b18 := F18.binds (ps := ["world", "spot"]) fun _ _ _ _ _ _ us hl => match us, hl with | [_, _], _ => rfl
  have b19 := F19.binds (ps := ["jar", "world", "reach"]) fun _ _ _ _ _ _ us hl => match us, hl with | [_, _, _], _ => rfl
  have b20 := F20.binds (ps := ["world"]) fun _ _ _ _ _ _ us hl => match us, hl with | [_], _ => rfl
  have b21 := F21.binds (ps := ["row"]) fun _ _ _ _ _ _ us hl => match us, hl with | [_], _ => rfl
  have b22 := F22.binds (ps := ["book"]) fun _ _ _ _ _ _ us hl => match us, hl with | [_], _ => rfl
  have b23 := F23.binds (ps := ["jar", "world", "mode", "slots"]) fun _ _ _ _ _ _ us hl => match us, hl with | [_, _, _, _], _ => rfl
  have b24 := F24.binds (ps := ["jar"]) fun _ _ _ _ _ _ us hl => match us, hl with | [_], _ => rfl
  have b25 := F25.binds (ps := ["gate"]) fun _ _ _ _ _ _ us hl => match us, hl with | [_], _ => rfl
  have b26 := F26.binds (ps := ["jar", "world"]) fun _ _ _ _ _ _ us hl => match us, hl with | [_, _], _ => rfl
  have b27 := F27.binds (ps := ["jar", "parts"]) fun _ _ _ _ _ _ us hl => match us, hl with | [_, _], _ => rfl
  have b28 := F28.binds (ps := ["word", "many"]) fun _ _ _ _ _ _ us hl => match us, hl with | [_, _], _ => rfl
  have b29 := F29.binds (ps := ["parts", "first", "many", "rising"]) fun _ _ _ _ _ _ us hl => match us, hl with | [_, _, _, _], _ => rfl
  have b30 := F30.binds (ps := ["parts", "first"]) fun _ _ _ _ _ _ us hl => match us, hl with | [_, _], _ => rfl
  have b31 := F31.binds (ps := ["word"]) fun _ _ _ _ _ _ us hl => match us, hl with | [_], _ => rfl
  have b32 := F32.binds (ps := ["parts"]) fun _ _ _ _ _ _ us hl => match us, hl with | [_], _ => rfl
  have b33 := F33.binds (ps := ["parts", "many"]) fun _ _ _ _ _ _ us hl => match us, hl with | [_, _], _ => rfl
  have b34 := F34.binds (ps := ["parts", "many"]) fun _ _ _ _ _ _ us hl => match us, hl with | [_, _], _ => rfl
  have b35 := F35.binds (ps := ["cell"]) fun _ _ _ _ _ _ us hl => match us, hl with | [_], _ => rfl
  have b36 := F36.binds (ps := ["jar", "reach"]) fun _ _ _ _ _ _ us hl => match us, hl with | [_, _], _ => rfl
  have b37 := F37.binds (ps := ["told", "due"]) fun _ _ _ _ _ _ us hl => match us, hl with | [_, _], _ => rfl
  have b38 := F38.binds (ps := ["caught"]) fun _ _ _ _ _ _ us hl => match us, hl with | [_], _ => rfl
  have b39 := F39.binds (ps := ["reader", "world", "text"]) fun _ _ _ _ _ _ us hl => match us, hl with | [_, _, _], _ => rfl
  have b40 := F40.binds (ps := ["jar", "reader", "world"]) fun _ _ _ _ _ _ us hl => match us, hl with | [_, _, _], _ => rfl
  have b41 := F41.binds (ps := ["reader", "world", "text"]) fun _ _ _ _ _ _ us hl => match us, hl with | [_, _, _], _ => rfl
  have b42 := F42.binds (ps := ["script"]) fun _ _ _ _ _ _ us hl => match us, hl with | [_], _ => rfl
  have Fi_InvalidWords := fun_mk (st := (clsS (topS 20) 0)) li_InvalidWords ci_InvalidWords ki_InvalidWords
  have bi_InvalidWords := Fi_InvalidWords.binds (ps := ["self", "place"]) fun _ _ _ _ _ _ us hl => match us, hl with | [_, _], _ => rfl
  let T : Tx K mg := { c_WishError := c_WishError, gc_WishError := PySem.W.mg_of X G ac_WishError, n_WishError := ac_WishError, c_InvalidTree := c_InvalidTree, gc_InvalidTree := PySem.W.mg_of X G ac_InvalidTree, n_InvalidTree := ac_InvalidTree, c_InvalidLocale := c_InvalidLocale, gc_InvalidLocale := PySem.W.mg_of X G ac_InvalidLocale, n_InvalidLocale := ac_InvalidLocale, c_InvalidWishes := c_InvalidWishes, gc_InvalidWishes := PySem.W.mg_of X G ac_InvalidWishes, n_InvalidWishes := ac_InvalidWishes, c_InvalidWay := c_InvalidWay, gc_InvalidWay := PySem.W.mg_of X G ac_InvalidWay, n_InvalidWay := ac_InvalidWay, c_InvalidCatalog := c_InvalidCatalog, gc_InvalidCatalog := PySem.W.mg_of X G ac_InvalidCatalog, n_InvalidCatalog := ac_InvalidCatalog, c_InvalidKey := c_InvalidKey, gc_InvalidKey := PySem.W.mg_of X G ac_InvalidKey, n_InvalidKey := ac_InvalidKey, c_InvalidText := c_InvalidText, gc_InvalidText := PySem.W.mg_of X G ac_InvalidText, n_InvalidText := ac_InvalidText, c_InvalidPage := c_InvalidPage, gc_InvalidPage := PySem.W.mg_of X G ac_InvalidPage, n_InvalidPage := ac_InvalidPage, c_InvalidDoor := c_InvalidDoor, gc_InvalidDoor := PySem.W.mg_of X G ac_InvalidDoor, n_InvalidDoor := ac_InvalidDoor, c_InvalidChoice := c_InvalidChoice, gc_InvalidChoice := PySem.W.mg_of X G ac_InvalidChoice, n_InvalidChoice := ac_InvalidChoice, c_InvalidIndex := c_InvalidIndex, gc_InvalidIndex := PySem.W.mg_of X G ac_InvalidIndex, n_InvalidIndex := ac_InvalidIndex, c_Unlike := c_Unlike, gc_Unlike := PySem.W.mg_of X G ac_Unlike, n_Unlike := ac_Unlike, c_Needless := c_Needless, gc_Needless := PySem.W.mg_of X G ac_Needless, n_Needless := ac_Needless, c_NothingThere := c_NothingThere, gc_NothingThere := PySem.W.mg_of X G ac_NothingThere, n_NothingThere := ac_NothingThere, c_NoBlock := c_NoBlock, gc_NoBlock := PySem.W.mg_of X G ac_NoBlock, n_NoBlock := ac_NoBlock, c_NothingToUndo := c_NothingToUndo, gc_NothingToUndo := PySem.W.mg_of X G ac_NothingToUndo, n_NothingToUndo := ac_NothingToUndo, c_InvalidCommand := c_InvalidCommand, gc_InvalidCommand := PySem.W.mg_of X G ac_InvalidCommand, n_InvalidCommand := ac_InvalidCommand, c_Mixed := c_Mixed, gc_Mixed := PySem.W.mg_of X G ac_Mixed, n_Mixed := ac_Mixed, c_InvalidWords := c_InvalidWords, gc_InvalidWords := PySem.W.mg_of X G ac_InvalidWords, n_InvalidWords := ac_InvalidWords, o_InvalidWords := ⟨⟨_, _, _, _, _, _, _, _, _, _, _, _, _, _, _, xl_InvalidWords, rfl⟩, sa_InvalidWords, eC_InvalidWords, tC_InvalidWords, kC_InvalidWords⟩, fi_InvalidWords := fi_InvalidWords, fdi_InvalidWords := _, Fi_InvalidWords := Fi_InvalidWords, ii_InvalidWords := ii_InvalidWords, ti_InvalidWords := ti_InvalidWords, no_InvalidWords := no_InvalidWords, bi_InvalidWords := bi_InvalidWords, bk_InvalidWords := (fun _ _ _ _ => .of_eq rfl), x_InvalidWords := PySem.W.exm_ref eC_InvalidWords hC_InvalidWords tC_InvalidWords sC_InvalidWords, xf_InvalidWords := ⟨ga_InvalidWords, gg_InvalidWords, eC_InvalidWords, hC_InvalidWords⟩, ec_InvalidWords := ⟨ga_InvalidWords, gg_InvalidWords, eC_InvalidWords, hC_InvalidWords, ha_InvalidWords, hn_InvalidWords, ht_InvalidWords, hm_InvalidWords⟩, rd_WishError := rd_InvalidWords, sp_WishError := sp_InvalidWords, v_WishError := v_InvalidWords, k_InvalidWords_InvalidCatalog := kInvalidCatalog_InvalidWords, k_InvalidWords_InvalidChoice := kInvalidChoice_InvalidWords, k_InvalidWords_InvalidCommand := kInvalidCommand_InvalidWords, k_InvalidWords_InvalidDoor := kInvalidDoor_InvalidWords, k_InvalidWords_InvalidIndex := kInvalidIndex_InvalidWords, k_InvalidWords_InvalidKey := kInvalidKey_InvalidWords, k_InvalidWords_InvalidLocale := kInvalidLocale_InvalidWords, k_InvalidWords_InvalidPage := kInvalidPage_InvalidWords, k_InvalidWords_InvalidText := kInvalidText_InvalidWords, k_InvalidWords_InvalidTree := kInvalidTree_InvalidWords, k_InvalidWords_InvalidWay := kInvalidWay_InvalidWords, k_InvalidWords_InvalidWishes := kInvalidWishes_InvalidWords, k_InvalidWords_InvalidWords := kInvalidWords_InvalidWords, k_InvalidWords_Mixed := kMixed_InvalidWords, k_InvalidWords_Needless := kNeedless_InvalidWords, k_InvalidWords_NoBlock := kNoBlock_InvalidWords, k_InvalidWords_NothingThere := kNothingThere_InvalidWords, k_InvalidWords_NothingToUndo := kNothingToUndo_InvalidWords, k_InvalidWords_Unlike := kUnlike_InvalidWords, k_InvalidWords_ValueError := kValueError_InvalidWords, k_InvalidWords_WishError := kWishError_InvalidWords, f_is_integer := f0, fd_is_integer := _, F_is_integer := F0, g_is_integer := PySem.W.mg_of X G a0, b_is_integer := b0, f_is_tree := f1, fd_is_tree := _, F_is_tree := F1, g_is_tree := PySem.W.mg_of X G a1, b_is_tree := b1, f_need_tree := f2, fd_need_tree := _, F_need_tree := F2, g_need_tree := PySem.W.mg_of X G a2, b_need_tree := b2, f_is_way := f3, fd_is_way := _, F_is_way := F3, g_is_way := PySem.W.mg_of X G a3, b_is_way := b3, f_locale_read := f4, fd_locale_read := _, F_locale_read := F4, g_locale_read := PySem.W.mg_of X G a4, b_locale_read := b4, f_row_read := f5, fd_row_read := _, F_row_read := F5, g_row_read := PySem.W.mg_of X G a5, b_row_read := b5, f_none_written := f6, fd_none_written := _, F_none_written := F6, g_none_written := PySem.W.mg_of X G a6, b_none_written := b6, f_locales_read := f7, fd_locales_read := _, F_locales_read := F7, g_locales_read := PySem.W.mg_of X G a7, b_locales_read := b7, f_pairs_read := f8, fd_pairs_read := _, F_pairs_read := F8, g_pairs_read := PySem.W.mg_of X G a8, b_pairs_read := b8, f_parents_read := f9, fd_parents_read := _, F_parents_read := F9, g_parents_read := PySem.W.mg_of X G a9, b_parents_read := b9, f_rows_read := f10, fd_rows_read := _, F_rows_read := F10, g_rows_read := PySem.W.mg_of X G a10, b_rows_read := b10, f_read_wishes := f11, fd_read_wishes := _, F_read_wishes := F11, g_read_wishes := PySem.W.mg_of X G a11, b_read_wishes := b11, f_read_tree := f12, fd_read_tree := _, F_read_tree := F12, g_read_tree := PySem.W.mg_of X G a12, b_read_tree := b12, f_read_catalog := f13, fd_read_catalog := _, F_read_catalog := F13, g_read_catalog := PySem.W.mg_of X G a13, b_read_catalog := b13, f_read_door := f14, fd_read_door := _, F_read_door := F14, g_read_door := PySem.W.mg_of X G a14, b_read_door := b14, f__law_pull := f15, fd__law_pull := _, F__law_pull := F15, g__law_pull := PySem.W.mg_of X G a15, b__law_pull := b15, f__law_other_word := f16, fd__law_other_word := _, F__law_other_word := F16, g__law_other_word := PySem.W.mg_of X G a16, b__law_other_word := b16, f__law_letters := f17, fd__law_letters := _, F__law_letters := F17, g__law_letters := PySem.W.mg_of X G a17, b__law_letters := b17, f__law_up := f18, fd__law_up := _, F__law_up := F18, g__law_up := PySem.W.mg_of X G a18, b__law_up := b18, f__law_some_asks := f19, fd__law_some_asks := _, F__law_some_asks := F19, g__law_some_asks := PySem.W.mg_of X G a19, b__law_some_asks := b19, f__law_world_words := f20, fd__law_world_words := _, F__law_world_words := F20, g__law_world_words := PySem.W.mg_of X G a20, b__law_world_words := b20, f__law_word_of := f21, fd__law_word_of := _, F__law_word_of := F21, g__law_word_of := PySem.W.mg_of X G a21, b__law_word_of := b21, f__law_book_words := f22, fd__law_book_words := _, F__law_book_words := F22, g__law_book_words := PySem.W.mg_of X G a22, b__law_book_words := b22, f__law_some_book := f23, fd__law_some_book := _, F__law_some_book := F23, g__law_some_book := PySem.W.mg_of X G a23, b__law_some_book := b23, f__law_some_mode := f24, fd__law_some_mode := _, F__law_some_mode := F24, g__law_some_mode := PySem.W.mg_of X G a24, b__law_some_mode := b24, f__law_door_words := f25, fd__law_door_words := _, F__law_door_words := F25, g__law_door_words := PySem.W.mg_of X G a25, b__law_door_words := b25, f__law_some_door := f26, fd__law_some_door := _, F__law_some_door := F26, g__law_some_door := PySem.W.mg_of X G a26, b__law_some_door := b26, f__law_other_words := f27, fd__law_other_words := _, F__law_other_words := F27, g__law_other_words := PySem.W.mg_of X G a27, b__law_other_words := b27, f__law_letter := f28, fd__law_letter := _, F__law_letter := F28, g__law_letter := PySem.W.mg_of X G a28, b__law_letter := b28, f__law_spots_read := f29, fd__law_spots_read := _, F__law_spots_read := F29, g__law_spots_read := PySem.W.mg_of X G a29, b__law_spots_read := b29, f__law_world_read := f30, fd__law_world_read := _, F__law_world_read := F30, g__law_world_read := PySem.W.mg_of X G a30, b__law_world_read := b30, f__law_row_read := f31, fd__law_row_read := _, F__law_row_read := F31, g__law_row_read := PySem.W.mg_of X G a31, b__law_row_read := b31, f__law_book_read := f32, fd__law_book_read := _, F__law_book_read := F32, g__law_book_read := PySem.W.mg_of X G a32, b__law_book_read := b32, f__law_pairs_read := f33, fd__law_pairs_read := _, F__law_pairs_read := F33, g__law_pairs_read := PySem.W.mg_of X G a33, b__law_pairs_read := b33, f__law_gate_read := f34, fd__law_gate_read := _, F__law_gate_read := F34, g__law_gate_read := PySem.W.mg_of X G a34, b__law_gate_read := b34, f__law_fill := f35, fd__law_fill := _, F__law_fill := F35, g__law_fill := PySem.W.mg_of X G a35, b__law_fill := b35, f__law_some_world := f36, fd__law_some_world := _, F__law_some_world := F36, g__law_some_world := PySem.W.mg_of X G a36, b__law_some_world := b36, f__law_same := f37, fd__law_same := _, F__law_same := F37, g__law_same := PySem.W.mg_of X G a37, b__law_same := b37, f__law_stands_under := f38, fd__law_stands_under := _, F__law_stands_under := F38, g__law_stands_under := PySem.W.mg_of X G a38, b__law_stands_under := b38, f__law_placed := f39, fd__law_placed := _, F__law_placed := F39, g__law_placed := PySem.W.mg_of X G a39, b__law_placed := b39, f__law_some_text := f40, fd__law_some_text := _, F__law_some_text := F40, g__law_some_text := PySem.W.mg_of X G a40, b__law_some_text := b40, f__law_text_read := f41, fd__law_text_read := _, F__law_text_read := F41, g__law_text_read := PySem.W.mg_of X G a41, b__law_text_read := b41, f_law := f42, fd_law := _, F_law := F42, g_law := PySem.W.mg_of X G a42, b_law := b42, m_ValueError := PySem.W.mg_none_of X G z_ValueError, m_bool := PySem.W.mg_none_of X G z_bool, m_int := PySem.W.mg_none_of X G z_int, m_isinstance := PySem.W.mg_none_of X G z_isinstance, m_len := PySem.W.mg_none_of X G z_len, m_list := PySem.W.mg_none_of X G z_list, m_max := PySem.W.mg_none_of X G z_max, m_min := PySem.W.mg_none_of X G z_min, m_range := PySem.W.mg_none_of X G z_range, m_repr := PySem.W.mg_none_of X G z_repr, m_str := PySem.W.mg_none_of X G z_str, m_tuple := PySem.W.mg_none_of X G z_tuple, t_LETTERS := t_LETTERS, c_LETTERS := PySem.W.mg_of X G y_LETTERS, t_SIGNS := t_SIGNS, c_SIGNS := PySem.W.mg_of X G y_SIGNS }
  rw [e]
  exact ⟨T.fd_law, fun s v => .of_eq rfl, fun base _ _ => ok_law T⟩
end K75
open PySem PySem.W PyProof.Rows
set_option maxHeartbeats 0 in
theorem PySem.Challenge.cw_wishedtongues_k75_words_that_cannot_stan_holds : PySem.Challenge.rw_wishedtongues_k75_words_that_cannot_stan.Holds := by
  w_on; o_law; k_head; (case hw => w_witness2)
  k_fill
  refine DD.walkG (l := PySem.Challenge.rw_wishedtongues_k75_words_that_cannot_stan) (n := 63) (k := 7) (x := "script") (Fl := K75.run_law) rfl (by decide) rfl ⟨rfl, by decide, by decide⟩ (fun w h Y => PySem.W.kIn_of Y) ?F K75.law_true
  case F =>
    intro w mg fa h KX G hmg
    refine' K75.all_mk KX G hmg ?ac_WishError ?ac_InvalidTree ?ac_InvalidLocale ?ac_InvalidWishes ?ac_InvalidWay ?ac_InvalidCatalog ?ac_InvalidKey ?ac_InvalidText ?ac_InvalidPage ?ac_InvalidDoor ?ac_InvalidChoice ?ac_InvalidIndex ?ac_Unlike ?ac_Needless ?ac_NothingThere ?ac_NoBlock ?ac_NothingToUndo ?ac_InvalidCommand ?ac_Mixed ?ac_InvalidWords ?xl_InvalidWords ?sa_InvalidWords ?ga_InvalidWords ?gg_InvalidWords ?no_InvalidWords ?ii_InvalidWords ?ti_InvalidWords ?li_InvalidWords ?ci_InvalidWords ?ki_InvalidWords ?kC_InvalidWords ?eC_InvalidWords ?tC_InvalidWords ?hC_InvalidWords ?sC_InvalidWords ?ha_InvalidWords ?hn_InvalidWords ?ht_InvalidWords ?hm_InvalidWords ?rd_InvalidWords ?sp_InvalidWords ?v_InvalidWords ?kInvalidCatalog_InvalidWords ?kInvalidChoice_InvalidWords ?kInvalidCommand_InvalidWords ?kInvalidDoor_InvalidWords ?kInvalidIndex_InvalidWords ?kInvalidKey_InvalidWords ?kInvalidLocale_InvalidWords ?kInvalidPage_InvalidWords ?kInvalidText_InvalidWords ?kInvalidTree_InvalidWords ?kInvalidWay_InvalidWords ?kInvalidWishes_InvalidWords ?kInvalidWords_InvalidWords ?kMixed_InvalidWords ?kNeedless_InvalidWords ?kNoBlock_InvalidWords ?kNothingThere_InvalidWords ?kNothingToUndo_InvalidWords ?kUnlike_InvalidWords ?kValueError_InvalidWords ?kWishError_InvalidWords ?a0 ?l0 ?c0 ?k0 ?a1 ?l1 ?c1 ?k1 ?a2 ?l2 ?c2 ?k2 ?a3 ?l3 ?c3 ?k3 ?a4 ?l4 ?c4 ?k4 ?a5 ?l5 ?c5 ?k5 ?a6 ?l6 ?c6 ?k6 ?a7 ?l7 ?c7 ?k7 ?a8 ?l8 ?c8 ?k8 ?a9 ?l9 ?c9 ?k9 ?a10 ?l10 ?c10 ?k10 ?a11 ?l11 ?c11 ?k11 ?a12 ?l12 ?c12 ?k12 ?a13 ?l13 ?c13 ?k13 ?a14 ?l14 ?c14 ?k14 ?a15 ?l15 ?c15 ?k15 ?a16 ?l16 ?c16 ?k16 ?a17 ?l17 ?c17 ?k17 ?a18 ?l18 ?c18 ?k18 ?a19 ?l19 ?c19 ?k19 ?a20 ?l20 ?c20 ?k20 ?a21 ?l21 ?c21 ?k21 ?a22 ?l22 ?c22 ?k22 ?a23 ?l23 ?c23 ?k23 ?a24 ?l24 ?c24 ?k24 ?a25 ?l25 ?c25 ?k25 ?a26 ?l26 ?c26 ?k26 ?a27 ?l27 ?c27 ?k27 ?a28 ?l28 ?c28 ?k28 ?a29 ?l29 ?c29 ?k29 ?a30 ?l30 ?c30 ?k30 ?a31 ?l31 ?c31 ?k31 ?a32 ?l32 ?c32 ?k32 ?a33 ?l33 ?c33 ?k33 ?a34 ?l34 ?c34 ?k34 ?a35 ?l35 ?c35 ?k35 ?a36 ?l36 ?c36 ?k36 ?a37 ?l37 ?c37 ?k37 ?a38 ?l38 ?c38 ?k38 ?a39 ?l39 ?c39 ?k39 ?a40 ?l40 ?c40 ?k40 ?a41 ?l41 ?c41 ?k41 ?a42 ?l42 ?c42 ?k42 ?z_ValueError ?z_bool ?z_int ?z_isinstance ?z_len ?z_list ?z_max ?z_min ?z_range ?z_repr ?z_str ?z_tuple ?y_LETTERS ?y_SIGNS
    (case ac_WishError => k_is); (case ac_InvalidTree => k_is); (case ac_InvalidLocale => k_is); (case ac_InvalidWishes => k_is); (case ac_InvalidWay => k_is); (case ac_InvalidCatalog => k_is); (case ac_InvalidKey => k_is); (case ac_InvalidText => k_is); (case ac_InvalidPage => k_is); (case ac_InvalidDoor => k_is); (case ac_InvalidChoice => k_is); (case ac_InvalidIndex => k_is); (case ac_Unlike => k_is); (case ac_Needless => k_is); (case ac_NothingThere => k_is); (case ac_NoBlock => k_is); (case ac_NothingToUndo => k_is); (case ac_InvalidCommand => k_is); (case ac_Mixed => k_is); (case ac_InvalidWords => k_is); (case xl_InvalidWords => k_is); (case sa_InvalidWords => k_is); (case ga_InvalidWords => k_is); (case gg_InvalidWords => k_is); (case no_InvalidWords => k_is); (case ii_InvalidWords => k_is); (case ti_InvalidWords => k_is); (case li_InvalidWords => k_is); (case ci_InvalidWords => k_is); (case ki_InvalidWords => k_is); (case kC_InvalidWords => k_is); (case eC_InvalidWords => k_is); (case tC_InvalidWords => k_is); (case hC_InvalidWords => k_is); (case sC_InvalidWords => k_is); (case ha_InvalidWords => k_is); (case hn_InvalidWords => k_is); (case ht_InvalidWords => k_is); (case hm_InvalidWords => k_is); (case rd_InvalidWords => k_is); (case sp_InvalidWords => k_is); (case v_InvalidWords => k_is); (case kInvalidCatalog_InvalidWords => kit_is); (case kInvalidChoice_InvalidWords => kit_is); (case kInvalidCommand_InvalidWords => kit_is); (case kInvalidDoor_InvalidWords => kit_is); (case kInvalidIndex_InvalidWords => kit_is); (case kInvalidKey_InvalidWords => kit_is); (case kInvalidLocale_InvalidWords => kit_is); (case kInvalidPage_InvalidWords => kit_is); (case kInvalidText_InvalidWords => kit_is); (case kInvalidTree_InvalidWords => kit_is); (case kInvalidWay_InvalidWords => kit_is); (case kInvalidWishes_InvalidWords => kit_is); (case kInvalidWords_InvalidWords => kit_is); (case kMixed_InvalidWords => kit_is); (case kNeedless_InvalidWords => kit_is); (case kNoBlock_InvalidWords => kit_is); (case kNothingThere_InvalidWords => kit_is); (case kNothingToUndo_InvalidWords => kit_is); (case kUnlike_InvalidWords => kit_is); (case kValueError_InvalidWords => kit_is); (case kWishError_InvalidWords => kit_is); (case a0 => k_is); (case l0 => k_is); (case c0 => k_is); (case k0 => k_is); (case a1 => k_is); (case l1 => k_is); (case c1 => k_is); (case k1 => k_is); (case a2 => k_is); (case l2 => k_is); (case c2 => k_is); (case k2 => k_is); (case a3 => k_is); (case l3 => k_is); (case c3 => k_is); (case k3 => k_is); (case a4 => k_is); (case l4 => k_is); (case c4 => k_is); (case k4 => k_is); (case a5 => k_is); (case l5 => k_is); (case c5 => k_is); (case k5 => k_is); (case a6 => k_is); (case l6 => k_is); (case c6 => k_is); (case k6 => k_is); (case a7 => k_is); (case l7 => k_is); (case c7 => k_is); (case k7 => k_is); (case a8 => k_is); (case l8 => k_is); (case c8 => k_is); (case k8 => k_is); (case a9 => k_is); (case l9 => k_is); (case c9 => k_is); (case k9 => k_is); (case a10 => k_is); (case l10 => k_is); (case c10 => k_is); (case k10 => k_is); (case a11 => k_is); (case l11 => k_is); (case c11 => k_is); (case k11 => k_is); (case a12 => k_is); (case l12 => k_is); (case c12 => k_is); (case k12 => k_is); (case a13 => k_is); (case l13 => k_is); (case c13 => k_is); (case k13 => k_is); (case a14 => k_is); (case l14 => k_is); (case c14 => k_is); (case k14 => k_is); (case a15 => k_is); (case l15 => k_is); (case c15 => k_is); (case k15 => k_is); (case a16 => k_is); (case l16 => k_is); (case c16 => k_is); (case k16 => k_is); (case a17 => k_is); (case l17 => k_is); (case c17 => k_is); (case k17 => k_is); (case a18 => k_is); (case l18 => k_is); (case c18 => k_is); (case k18 => k_is); (case a19 => k_is); (case l19 => k_is); (case c19 => k_is); (case k19 => k_is); (case a20 => k_is); (case l20 => k_is); (case c20 => k_is); (case k20 => k_is); (case a21 => k_is); (case l21 => k_is); (case c21 => k_is); (case k21 => k_is); (case a22 => k_is); (case l22 => k_is); (case c22 => k_is); (case k22 => k_is); (case a23 => k_is); (case l23 => k_is); (case c23 => k_is); (case k23 => k_is); (case a24 => k_is); (case l24 => k_is); (case c24 => k_is); (case k24 => k_is); (case a25 => k_is); (case l25 => k_is); (case c25 => k_is); (case k25 => k_is); (case a26 => k_is); (case l26 => k_is); (case c26 => k_is); (case k26 => k_is); (case a27 => k_is); (case l27 => k_is); (case c27 => k_is); (case k27 => k_is); (case a28 => k_is); (case l28 => k_is); (case c28 => k_is); (case k28 => k_is); (case a29 => k_is); (case l29 => k_is); (case c29 => k_is); (case k29 => k_is); (case a30 => k_is); (case l30 => k_is); (case c30 => k_is); (case k30 => k_is); (case a31 => k_is); (case l31 => k_is); (case c31 => k_is); (case k31 => k_is); (case a32 => k_is); (case l32 => k_is); (case c32 => k_is); (case k32 => k_is); (case a33 => k_is); (case l33 => k_is); (case c33 => k_is); (case k33 => k_is); (case a34 => k_is); (case l34 => k_is); (case c34 => k_is); (case k34 => k_is); (case a35 => k_is); (case l35 => k_is); (case c35 => k_is); (case k35 => k_is); (case a36 => k_is); (case l36 => k_is); (case c36 => k_is); (case k36 => k_is); (case a37 => k_is); (case l37 => k_is); (case c37 => k_is); (case k37 => k_is); (case a38 => k_is); (case l38 => k_is); (case c38 => k_is); (case k38 => k_is); (case a39 => k_is); (case l39 => k_is); (case c39 => k_is); (case k39 => k_is); (case a40 => k_is); (case l40 => k_is); (case c40 => k_is); (case k40 => k_is); (case a41 => k_is); (case l41 => k_is); (case c41 => k_is); (case k41 => k_is); (case a42 => k_is); (case l42 => k_is); (case c42 => k_is); (case k42 => k_is); (case z_ValueError => k_is); (case z_bool => k_is); (case z_int => k_is); (case z_isinstance => k_is); (case z_len => k_is); (case z_list => k_is); (case z_max => k_is); (case z_min => k_is); (case z_range => k_is); (case z_repr => k_is); (case z_str => k_is); (case z_tuple => k_is); (case y_LETTERS => k_is); (case y_SIGNS => k_is)
