import PyProof.Rows.All
import Wide.All
import OpenK.AllK
import Wide.FinOn
import HandS.ForMost
import HandS.Walk
import HandS.Exc
import HandS.ExcOwn
import HandS.ExcInit
import HandS.TryOnly
import HandS.TryMany
import HandS.WordsExc
import HandS.ExcField
import HandS.DictComp
import HandS.Style
import HandS.TupAny
import HandS.TupMul
import HandS.Defaults
import HandS.MakeKw
import HandS.OwnEq
import HandS.Strs
import HandS.FStr
import HandS.Flow
import HandS.IsInst
import KE.KDictKeyed
import KE.KDictPairs
import KE.KDictWalk
import KE.GoesEnum
import KE.GoesDict
import KE.GoesSet
import KE.GoesNew
import KE.GoesNewDict
import HandS.Codes
import HandS.Conv
import KE.SortData
import PyProof.ReprReads
import PySem.Challenge.RW_voicefold_k14_whole_polls_alike_joined_a
import HandS.SetBool
import HandS.SetFor
import KE.KDictCopyH
import HandS.Ends
set_option Elab.async false
set_option linter.all false
set_option maxRecDepth 100000
set_option autoImplicit false
set_option maxHeartbeats 4000000
/-! ## A. tuple data in the abstract heap -/
namespace VF
open PySem L2

mutual
/-- v is, in H, the data d: no later change of the heap touches it. There is no list among them: «.list ds» stands for a tuple of ds of which it is known that it has no dict of its own -/
inductive Dt (K : PySem.W.Frag) (H : Hp) : V → PyData → Prop
  | non : Dt K H .non .none
  | bl (b : Bool) : Dt K H (.bl b) (.bool b)
  | int (i : Int) : Dt K H (.int i) (.int i)
  | str (x : Str) : Dt K H (.str x) (.str x)
  | tup {a : Addr} {xs : List V} {ds : List PyData} (h : SqT K H a xs) (t : Dts K H xs ds) : Dt K H (.ref a) (.tuple ds)
  | plain {a : Addr} {o : Obj} {xs : List V} {ds : List PyData} (h : H a = some (.frz o (.tup xs))) (n : o.dict = none) (t : Dts K H xs ds) : Dt K H (.ref a) (.list ds)
inductive Dts (K : PySem.W.Frag) (H : Hp) : List V → List PyData → Prop
  | nil : Dts K H [] []
  | cons {v : V} {vs : List V} {d : PyData} {ds : List PyData} (h : Dt K H v d) (t : Dts K H vs ds) : Dts K H (v :: vs) (d :: ds)
end

/-! the data itself: a plain tuple is a tuple -/
mutual
def real : PyData → PyData
  | .none => .none
  | .bool b => .bool b
  | .int i => .int i
  | .str x => .str x
  | .list xs => .tuple (reals xs)
  | .tuple xs => .tuple (reals xs)
  | .dict kvs => .dict kvs
def reals : List PyData → List PyData
  | [] => []
  | d :: r => real d :: reals r
end
theorem reals_map : ∀ ds : List PyData, reals ds = ds.map real
  | [] => rfl
  | d :: r => by rw [reals, reals_map r, List.map_cons]
/-- every tuple of H is one of H', all that is known to the object too -/
structure Tk (K : PySem.W.Frag) (H H' : Hp) : Prop where
  t : ∀ a xs, SqT K H a xs → SqT K H' a xs
  f : ∀ a o u, H a = some (.frz o u) → H' a = some (.frz o u)

section
variable {K : PySem.W.Frag} {H H' H'' : Hp}
theorem Tk.refl (H : Hp) : Tk K H H := ⟨fun _ _ h => h, fun _ _ _ h => h⟩
theorem Tk.trans (a : Tk K H H') (b : Tk K H' H'') : Tk K H H'' := ⟨fun x o h => b.t x o (a.t x o h), fun x o u h => b.f x o u (a.f x o u h)⟩
theorem Tk.same (s : Same H H') : Tk K H H' := by
  refine ⟨fun a xs h => ?_, fun a o u h => s _ _ h⟩
  rcases h with (h | ⟨o, h⟩) | h
  · exact .inl (.inl (s _ _ h))
  · exact .inl (.inr ⟨o, s _ _ h⟩)
  · exact .inr h
theorem same_t {a : Addr} {xs : List V} (s : Same H H') (h : SqT K H a xs) : SqT K H' a xs := (Tk.same s).t a xs h
/-- what may be changed in place -/
def Soft (o : Option HO) : Prop := (∀ xs, o ≠ some (.tup xs)) ∧ ∀ b u, o ≠ some (.frz b u)
theorem Soft.none : Soft Option.none := ⟨(fun _ h => nomatch h), (fun _ _ h => nomatch h)⟩
theorem Soft.lst {xs : List V} : Soft (some (.lst xs)) := ⟨(fun _ h => nomatch h), (fun _ _ h => nomatch h)⟩
theorem Soft.dK {xs : List (Key × V)} : Soft (some (.dK xs)) := ⟨(fun _ h => nomatch h), (fun _ _ h => nomatch h)⟩
theorem Soft.ext {p : Heap → Prop} : Soft (some (.ext p)) := ⟨(fun _ h => nomatch h), (fun _ _ h => nomatch h)⟩
theorem Soft.ins {C d : Addr} {xs : List (Str × V)} : Soft (some (.ins C d xs)) := ⟨(fun _ h => nomatch h), (fun _ _ h => nomatch h)⟩
theorem Tk.upd {p : Addr} {o : HO} (h : Soft (H p)) : Tk K H (L2.upd H p o) := by
  refine ⟨fun a xs q => ?_, fun a ob u q => ?_⟩
  · rcases q with (q | ⟨ob, q⟩) | q
    · refine .inl (.inl ?_)
      rw [upd_ne (fun e => h.1 xs (by rw [← e]; exact q))]
      exact q
    · refine .inl (.inr ⟨ob, ?_⟩)
      rw [upd_ne (fun e => h.2 ob _ (by rw [← e]; exact q))]
      exact q
    · exact .inr q
  · rw [upd_ne (fun e => h.2 ob u (by rw [← e]; exact q))]
    exact q
theorem _root_.L2.Same.put {p : Addr} {o : HO} (h : H p = Option.none) : Same H (L2.upd H p o) := fun a u e => by
  rw [upd_ne (ne_of_none e h)]
  exact e
theorem _root_.L2.Same.put' {p : Addr} {o : HO} (s : Same H H') (h : H' p = Option.none) : Same H (L2.upd H' p o) := s.trans (L2.Same.put h)
/-- an address that H does not know may be written -/
theorem _root_.L2.Same.over {p : Addr} {o : HO} (s : Same H H') (h : H p = Option.none) : Same H (L2.upd H' p o) := fun a u e => by
  rw [upd_ne (ne_of_none e h)]
  exact s _ _ e

mutual
theorem Dt.mono (k : Tk K H H') : ∀ {v : V} {d : PyData}, Dt K H v d → Dt K H' v d
  | _, _, .non => .non
  | _, _, .bl b => .bl b
  | _, _, .int i => .int i
  | _, _, .str x => .str x
  | _, _, .tup h t => .tup (k.t _ _ h) (Dts.mono k t)
  | _, _, .plain h n t => .plain (k.f _ _ _ h) n (Dts.mono k t)
theorem Dts.mono (k : Tk K H H') : ∀ {v : List V} {d : List PyData}, Dts K H v d → Dts K H' v d
  | _, _, .nil => .nil
  | _, _, .cons h t => .cons (Dt.mono k h) (Dts.mono k t)
end
theorem Dt.same (s : Same H H') {v : V} {d : PyData} (h : Dt K H v d) : Dt K H' v d := h.mono (Tk.same s)
theorem Dts.same (s : Same H H') {v : List V} {d : List PyData} (h : Dts K H v d) : Dts K H' v d := h.mono (Tk.same s)
mutual
theorem Dt.dp : ∀ {v : V} {d : PyData}, Dt K H v d → Dp K H v (real d)
  | _, _, .non => .non
  | _, _, .bl b => .bl b
  | _, _, .int i => .int i
  | _, _, .str x => .str x
  | _, _, .tup h t => .tup h (Dts.dp t)
  | _, _, .plain h _ t => .tup (.inl (.inr ⟨_, h⟩)) (Dts.dp t)
theorem Dts.dp : ∀ {v : List V} {d : List PyData}, Dts K H v d → DpAll K H v (reals d)
  | _, _, .nil => .nil
  | _, _, .cons h t => .cons (Dt.dp h) (Dts.dp t)
end
theorem Dts.length : ∀ {vs : List V} {ds : List PyData}, Dts K H vs ds → vs.length = ds.length
  | _, _, .nil => rfl
  | _, _, .cons _ t => by rw [List.length_cons, List.length_cons, Dts.length t]
theorem Dts.get : ∀ {vs : List V} {ds : List PyData} {i : Nat} {v : V}, Dts K H vs ds → vs[i]? = some v → ∃ d, ds[i]? = some d ∧ Dt K H v d
  | _, _, _, _, .nil, e => by simp at e
  | _, _, 0, _, .cons h _, e => by
    simp at e
    subst e
    exact ⟨_, rfl, h⟩
  | _, _, i + 1, _, .cons _ t, e => by
    obtain ⟨d, h1, h2⟩ := Dts.get (i := i) t (by simpa using e)
    exact ⟨d, by simpa using h1, h2⟩
theorem Dts.get' : ∀ {vs : List V} {ds : List PyData} {i : Nat} {d : PyData}, Dts K H vs ds → ds[i]? = some d → ∃ v, vs[i]? = some v ∧ Dt K H v d
  | _, _, _, _, .nil, e => by simp at e
  | _, _, 0, _, .cons h _, e => by
    simp at e
    subst e
    exact ⟨_, rfl, h⟩
  | _, _, i + 1, _, .cons _ t, e => by
    obtain ⟨d, h1, h2⟩ := Dts.get' (i := i) t (by simpa using e)
    exact ⟨d, by simpa using h1, h2⟩
theorem Dts.app : ∀ {vs ws : List V} {ds es : List PyData}, Dts K H vs ds → Dts K H ws es → Dts K H (vs ++ ws) (ds ++ es)
  | _, _, _, _, .nil, s => s
  | _, _, _, _, .cons h t, s => .cons h (Dts.app t s)
theorem Dts.snoc {vs : List V} {ds : List PyData} {v : V} {d : PyData} (h : Dts K H vs ds) (x : Dt K H v d) : Dts K H (vs ++ [v]) (ds ++ [d]) := h.app (.cons x .nil)
theorem Dts.take : ∀ {vs : List V} {ds : List PyData} (n : Nat), Dts K H vs ds → Dts K H (vs.take n) (ds.take n)
  | _, _, 0, _ => .nil
  | _, _, n + 1, .nil => .nil
  | _, _, n + 1, .cons h t => .cons h (Dts.take n t)
theorem Dts.drop : ∀ {vs : List V} {ds : List PyData} (n : Nat), Dts K H vs ds → Dts K H (vs.drop n) (ds.drop n)
  | _, _, 0, h => h
  | _, _, n + 1, .nil => .nil
  | _, _, n + 1, .cons _ t => Dts.drop n t
theorem Dts.rev : ∀ {vs : List V} {ds : List PyData}, Dts K H vs ds → Dts K H vs.reverse ds.reverse
  | _, _, .nil => .nil
  | _, _, .cons h t => by
    rw [List.reverse_cons, List.reverse_cons]
    exact (Dts.rev t).snoc h
theorem Dts.strs (xs : List Str) : Dts K H (xs.map V.str) (xs.map PyData.str) := by
  induction xs with
  | nil => exact .nil
  | cons x r ih => exact .cons (.str x) ih
theorem Dts.to_strs : ∀ {vs : List V} {xs : List Str}, Dts K H vs (xs.map PyData.str) → vs = xs.map V.str
  | _, [], .nil => rfl
  | _, x :: r, .cons h t => by
    cases h
    rw [Dts.to_strs t]
    rfl
theorem Dts.ints (xs : List Int) : Dts K H (xs.map V.int) (xs.map PyData.int) := by
  induction xs with
  | nil => exact .nil
  | cons x r ih => exact .cons (.int x) ih
theorem Dts.to_bls : ∀ {vs : List V} {xs : List Bool}, Dts K H vs (xs.map PyData.bool) → vs = xs.map V.bl
  | _, [], .nil => rfl
  | _, x :: r, .cons h t => by
    cases h
    rw [Dts.to_bls t]
    rfl
theorem Dts.to_ints : ∀ {vs : List V} {xs : List Int}, Dts K H vs (xs.map PyData.int) → vs = xs.map V.int
  | _, [], .nil => rfl
  | _, x :: r, .cons h t => by
    cases h
    rw [Dts.to_ints t]
    rfl
theorem Dt.tup_inv {v : V} {ds : List PyData} (h : Dt K H v (.tuple ds)) : ∃ a xs, v = .ref a ∧ SqT K H a xs ∧ Dts K H xs ds := by
  cases h with
  | tup h t => exact ⟨_, _, rfl, h, t⟩
theorem Dt.plain_inv {v : V} {ds : List PyData} (h : Dt K H v (.list ds)) : ∃ a o xs, v = .ref a ∧ H a = some (.frz o (.tup xs)) ∧ o.dict = none ∧ SqT K H a xs ∧ Dts K H xs ds := by
  cases h with
  | plain h n t => exact ⟨_, _, _, rfl, h, n, .inl (.inr ⟨_, h⟩), t⟩
theorem Dt.str_inv {v : V} {x : Str} (h : Dt K H v (.str x)) : v = .str x := by
  cases h
  rfl
theorem Dt.int_inv {v : V} {x : Int} (h : Dt K H v (.int x)) : v = .int x := by
  cases h
  rfl
theorem Dt.new {p : Addr} {xs : List V} {ds : List PyData} (h : H p = some (.tup xs)) (t : Dts K H xs ds) : Dt K H (.ref p) (.tuple ds) := .tup (SqT.of h) t
/-- a tuple of texts -/
theorem Dt.names {p : Addr} {xs : List Str} (h : SqT K H p (xs.map V.str)) : Dt K H (.ref p) (.tuple (xs.map PyData.str)) := .tup h (Dts.strs xs)
theorem Dt.names_inv {v : V} {xs : List Str} (h : Dt K H v (.tuple (xs.map PyData.str))) : ∃ a, v = .ref a ∧ SqT K H a (xs.map V.str) := by
  obtain ⟨a, ys, e, h, t⟩ := h.tup_inv
  rw [t.to_strs] at h
  exact ⟨a, e, h⟩
end

/-! ### a comprehension whose elements are data -/
section
variable {K : PySem.W.Frag} {J : It} {G : Hp → Prop} {Y : Nat → Hp → V → Hp → Prop}
theorem lc_d {β : Type} (ds : List β) (f : β → Option PyData) (w : Walk J ds.length G Y) {g : TG} {tt : TT} {te : TE} {vs : List Nat} {σ : St} {H1 : Hp} {D : Addr} {Qd : Hp → Prop} (hD : H1 D = none) (hn : ds.length < sizeLine)
    (hG : ∀ H, Same H1 H → G H)
    (hs : ∀ (i : Nat) (b : β) (x : V) (H H' : Hp), ds[i]? = some b → Same H1 H → Y i H x H' → Same H H' ∧ ∀ (A : V → Hp → Prop) (N : Hp → Prop),
      (∀ y H4 d, f b = some d → Same H' H4 → Dt K H4 y d → A y H4) → (∀ H4, f b = none → Same H' H4 → N H4) →
        g x (wipe σ vs) H' fun σ2 H2 => wipe σ2 vs = wipe σ vs ∧ tt σ2 H2 fun c H3 => if c = true then te σ2 H3 A else N H3)
    (hd : ∀ H ys, Same H1 H → H D = some (.lst ys) → Dts K H ys (ds.filterMap f) → Qd H) :
    ∃ W : Nat → Nat → Hp → Prop, (∃ m, W 0 m (upd H1 D (.lst []))) ∧ ∀ i m H, W i m H →
      (J.stop i H ∧ Qd H) ∨ (J.go i H ∧ ∃ Nx : Hp → Prop, (∀ H', Nx H' → ∃ m', m' < m ∧ W (i + 1) m' H') ∧ ∀ x H', J.yld i H x H' → g x (wipe σ vs) H' fun σ2 H2 => wipe σ2 vs = wipe σ vs ∧ tt σ2 H2 fun b H3 =>
        if b = true then te σ2 H3 fun y H4 => ∃ acc, H4 D = some (.lst acc) ∧ acc.length < sizeLine ∧ Nx (upd H4 D (.lst (acc ++ [y]))) else Nx H3) := by
  refine lc_it w (fun i H => Same H1 H ∧ ∃ ys, H D = some (.lst ys) ∧ Dts K H ys ((ds.take i).filterMap f)) ⟨L2.Same.put hD, [], upd_same, ?_⟩ (fun i H _ h => hG H h.1) ?_ ?_
  · rw [List.take_zero]
    exact .nil
  · rintro i x H H' hi ⟨s, ys, hy, hl⟩ y
    have e : ds[i]? = some ds[i] := by simp [hi]
    have et : (ds.take (i + 1)).filterMap f = (ds.take i).filterMap f ++ ([ds[i]].filterMap f) := by
      rw [List.take_succ_eq_append_getElem hi, List.filterMap_append]
    obtain ⟨s', k⟩ := hs i ds[i] x H H' e s y
    refine k _ _ (fun y H4 d hf s4 hy4 => ?_) (fun H4 hf s4 => ?_)
    · have q : H4 D = some (.lst ys) := s4 _ _ (s' _ _ hy)
      refine ⟨ys, q, ?_, (s.trans (s'.trans s4)).over hD, _, upd_same, ?_⟩
      · rw [hl.length]
        refine Nat.lt_of_le_of_lt (List.length_filterMap_le ..) ?_
        rw [List.length_take]
        exact Nat.lt_of_le_of_lt (Nat.min_le_right ..) hn
      · rw [et]
        have e1 : [ds[i]].filterMap f = [d] := by simp [hf]
        rw [e1]
        have t : Tk K H4 (upd H4 D (.lst (ys ++ [y]))) := Tk.upd (by rw [q]; exact Soft.lst)
        exact ((hl.same (s'.trans s4)).snoc hy4).mono t
    · refine ⟨s.trans (s'.trans s4), ys, s4 _ _ (s' _ _ hy), ?_⟩
      rw [et]
      have e1 : [ds[i]].filterMap f = [] := by simp [hf]
      rw [e1, List.append_nil]
      exact hl.same (s'.trans s4)
  · rintro H ⟨s, ys, hy, hl⟩
    rw [List.take_length] at hl
    exact hd H ys s hy hl
end
end VF
set_option maxHeartbeats 4000000
/-! ## B. rules of our own: enumerate of a tuple -/
namespace VF
open PySem L2 PySem.Spec PyProof.Rows
section
variable {X : Cx} {pins : List (Addr × Obj)} {σ : L2.St} {H : Hp} {s : Shared}
/-- some untracked records have turned -/
theorem turnedL {h' : Heap} {t' : Nat} {ch : List Addr} (I : Inv X pins σ H s) (k : ∀ b o, b ∉ ch → s.heap.get? b = some o → h'.get? b = some o) (hf : ∀ b ∈ ch, FpOk X pins H b) :
    Inv X pins σ H { s with heap := h', toks := t' } := by
  have far : ∀ b u, H b = some u → b ∉ ch := fun b u e z => by
    have q := (hf b z).1
    rw [e] at q
    cases q
  have hL : X.env.locals ∉ ch := fun z => (hf _ z).2.1 rfl
  refine I.step (g' := s.gens) (d' := s.drawn) (ch := ch) (fun b hb => ?_) (fun b o _ _ hc e _ => k b o hc e) (fun b o _ _ hc e _ => ⟨o.slots, k b o hc e⟩) (fun _ _ _ _ n => n)
    (fun b o hc e => ⟨o, k b o hc e⟩) (fun _ _ e => e) (fun _ _ _ e => e) (fun b ps e => ⟨#[], by rw [e]; simp⟩) (fun m hm => ?_) (fun b u e => ?_) I.bare
  · obtain ⟨_, f1, _, f3, f4, f5⟩ := hf b hb
    exact ⟨f3, f1, f4, f5⟩
  · obtain ⟨o, es, ep, ho, r⟩ := hm
    exact ⟨o, es, ep, k _ o hL ho, r⟩
  · refine (I.hok b u e).stay (fun c v hc q => k c v ?_ q) (fun _ q => q) fun _ _ q => q
    rcases hc with z | z
    · rw [z]
      exact far b u e
    · exact far c _ z

/-! ### for i, x in enumerate(t), t a tuple -/
/-- enumerate.__new__ of one argument that begins -/
theorem meets_enum1 {v : Value} {o : Obj} {H : Heap → Prop} (B : Begins v o H) :
    Meets (Builtin.«enumerate.__new__» ⟨[.type "enumerate", v], []⟩) (fun _ R s => H s.heap ∧
      R (.ok (.ret (.ref (s.heap.push o).objs.size))) { s with heap := (s.heap.push o).push { cls := .type "enumerate", data := .fields #[.none, .bool false, .ref s.heap.objs.size, rawInt 0, .none, .none] } }) :=
  .of_wp fun prog w A R s h => by
    obtain ⟨hp, g, d, tk, os⟩ := s
    obtain ⟨h1, h⟩ := h
    have hsub := sub_enumerate
    have begins : ∀ {A' : Around} {E : Value → Shared → Prop} {Q : Value → Shared → Prop}, Q (.ref hp.objs.size) ⟨hp.push o, g, d, tk, os⟩ → wpAny (model prog w) A' (pyIter v) Q E ⟨hp, g, d, tk, os⟩ :=
      fun q => B.iter prog w _ _ ⟨hp, g, d, tk, os⟩ _ h1 q
    wp_walk using begins
    refine wpAny_stack_any fun st => wpAny_pure ?_
    split
    · rename_i c _ _ _ _ _
      cases (c == Value.type "enumerate") <;> (wp_walk using begins; exact ⟨_, rfl, h⟩)
    · wp_walk using begins
      exact ⟨_, rfl, h⟩
theorem enum1_begins {prog : Program} {w : World} {A : Around} {E : Value → Shared → Prop} {v : Value} {o : Obj} {H : Heap → Prop} {Q : Value → Shared → Prop} (B : Begins v o H) (h1 : H s.heap)
    (h : ∀ h', IsEnum h' (s.heap.objs.size + 1) s.heap.objs.size 0 .none → h'.get? s.heap.objs.size = some o →
      (∀ b o, s.heap.get? b = some o → h'.get? b = some o) → Q (.ref (s.heap.objs.size + 1)) { s with heap := h' }) :
    wpAny (model prog w) A (call (.type "enumerate") [v]) Q E s := by
  refine callType_new F.called_enumerate (by decide) (F.typeCall_enumerate_1 _) (F.newCall_enumerate_1 _) (fun obj => F.args_object_init_2 obj _) F.entry_enumerate_new (meets_enum1 B) ⟨h1, ?_⟩
  have hz : (s.heap.push o).objs.size = s.heap.objs.size + 1 := Heap.size_push ..
  show _ ∧ _
  rw [hz]
  have he : IsEnum ((s.heap.push o).push { cls := .type "enumerate", data := .fields #[.none, .bool false, .ref s.heap.objs.size, rawInt 0, .none, .none] }) (s.heap.objs.size + 1) s.heap.objs.size 0 .none := by
    have q := Heap.get?_push_size (s.heap.push o) (o := { cls := .type "enumerate", data := .fields #[.none, .bool false, .ref s.heap.objs.size, rawInt 0, .none, .none] }) rfl
    rw [hz] at q
    exact q
  exact ⟨⟨_, he, rfl⟩, h _ he (Heap.get?_push_of_some _ (Heap.get?_push_size _ B.free)) fun b o x => Heap.get?_push_of_some _ (Heap.get?_push_of_some _ x)⟩

/-- the tuple at a, each item in a new pair with its place -/
def Itet (K : PySem.W.Frag) (a : Addr) : It :=
  ⟨fun i H => ∃ (xs : List V) (x : V), SqT K H a xs ∧ xs[i]? = some x, fun i H v H' => ∃ T x, v = .ref T ∧ H T = none ∧ H' = upd H T (.tup [.int (i : Nat), x]) ∧ ∀ xs, SqT K H a xs → xs[i]? = some x, fun i H => ∃ xs : List V, SqT K H a xs ∧ xs.length = i⟩
theorem turn_enumT {P : Program} {w : World} {K : PySem.W.Frag} {elts : List Expr} {kk : Nat} {tpos : Pos} (a e it : Addr) :
    Turn P w K (.Tuple elts kk tpos) (Itet K a) [e, it] e (fun i h => (∃ old, IsEnum h e it (0 + ((i : Nat) : Int)) old) ∧ h.IsTupleIter it a i ∧ e ≠ it) where
  mem := by simp
  obj := fun i h st b hb => by
    obtain ⟨⟨old, he⟩, ⟨o, ho, hc, hd⟩, _⟩ := st
    have e' : b = e ∨ b = it := by simpa using hb
    rcases e' with z | z
    · rw [z]
      exact ⟨_, he, (fun v q => nomatch q)⟩
    · rw [z]
      exact ⟨o, ho, fun v q => by rw [hd] at q; cases q⟩
  keep := fun i h h' st k => let ⟨⟨old, he⟩, hi, hne⟩ := st; ⟨⟨old, k e (by simp) _ he⟩, hi.at fun o q => k it (by simp) o q, hne⟩
  item := by
    intro X hP hw hK hc i pins s σ H E I hf st hg
    subst hP hw hK
    obtain ⟨⟨old, he⟩, hit, hne⟩ := st
    obtain ⟨xs, x, hq, hx⟩ := hg
    obtain ⟨its, rv, p, hz⟩ := I.tuple hq
    obtain ⟨u, hu, ru⟩ := rv.get hx
    have pt : s.heap.IsTuple a its.toArray := p
    have hae : a ≠ e := fun z => by
      obtain ⟨o, ho, hcl, _⟩ := pt
      rw [z, he] at ho
      cases ho
      exact absurd hcl (show ¬ (Value.type "enumerate" = Value.type "tuple") by decide)
    have hai : a ≠ it := fun z => by
      obtain ⟨o, ho, hcl, _⟩ := pt
      obtain ⟨o2, ho2, hcl2, _⟩ := hit
      rw [z, ho2] at ho
      cases ho
      rw [hcl2] at hcl
      exact absurd hcl (by decide)
    have hil : i < its.toArray.size := by
      have q := (List.getElem?_eq_some_iff.mp hu).1
      simpa using q
    have W := GoesN.enumFrom (prog := X.prog) (w := X.w) (A := X.A) (elts := elts) (x1 := kk) (pos := tpos) 0 (Draws.tuple (A := X.A.in1) (I.ok.hd hc) it a hai its.toArray) e hne (by simp [hne, Ne.symm hae]) (by simp)
    refine W.goes i s _ E hil ⟨⟨old, he⟩, hit, pt⟩ fun v h' tk hY st' hk htk => ?_
    obtain ⟨T, t, y, rfl, hT0, hy, hT⟩ := hY
    obtain ⟨⟨old', he'⟩, hit', _⟩ := st'
    have ey : y = u := by
      have e1 : its.toArray[i]? = some u := by simpa using hu
      rw [e1] at hy
      exact (Option.some.inj hy).symm
    subst ey
    have new : ObjOk X.prog X.w (upd H T (.tup [.int (i : Nat), x])) h' T (.tup [.int (i : Nat), x]) := by
      refine ⟨by show 2 ≤ sizeLine; decide, [.int (0 + (i : Int)) t, y], .cons ⟨t, by rw [Int.zero_add]⟩ (.cons ru .nil), hT⟩
    have I1 : Inv X pins σ (upd H T (.tup [.int (i : Nat), x])) { s with heap := h', toks := tk } :=
      I.turnedNew (ch := [e, it]) hk hf hT0 new
    have below : ∀ b ∈ [e, it], b ≠ T := fun b hb z => by
      have q : b < s.heap.objs.size := by
        have e' : b = e ∨ b = it := by simpa using hb
        rcases e' with z | z
        · rw [z]
          exact Heap.lt_size he
        · rw [z]
          obtain ⟨o2, ho2, _⟩ := hit
          exact Heap.lt_size ho2
      rw [z] at q
      exact absurd (Nat.lt_of_lt_of_le q hT0) (Nat.lt_irrefl _)
    exact ⟨.ref T, _, I1, rfl, ⟨T, x, rfl, I.hok.fresh hT0, rfl, fun ys hy => by rw [I.tuple_inj hy hq]; exact hx⟩, ⟨⟨old', he'⟩, hit', hne⟩, fun b hb => by rw [upd_ne (below b hb)]; exact (hf b hb).1⟩
  done := by
    intro X hP hw hK hc i pins s σ H E I hf st hg
    subst hP hw hK
    obtain ⟨⟨old, he⟩, hit, hne⟩ := st
    obtain ⟨xs, hq, hx⟩ := hg
    obtain ⟨its, rv, p, hz⟩ := I.tuple hq
    have pt : s.heap.IsTuple a its.toArray := p
    have hae : a ≠ e := fun z => by
      obtain ⟨o, ho, hcl, _⟩ := pt
      rw [z, he] at ho
      cases ho
      exact absurd hcl (show ¬ (Value.type "enumerate" = Value.type "tuple") by decide)
    have hai : a ≠ it := fun z => by
      obtain ⟨o, ho, hcl, _⟩ := pt
      obtain ⟨o2, ho2, hcl2, _⟩ := hit
      rw [z, ho2] at ho
      cases ho
      rw [hcl2] at hcl
      exact absurd hcl (by decide)
    have ei : i = its.toArray.size := by
      rw [← hx, rv.length]
      simp
    subst ei
    have W := GoesN.enumFrom (prog := X.prog) (w := X.w) (A := X.A) (elts := elts) (x1 := kk) (pos := tpos) 0 (Draws.tuple (A := X.A.in1) (I.ok.hd hc) it a hai its.toArray) e hne (by simp [hne, Ne.symm hae]) (by simp)
    refine W.stops s (fun s1 => Inv X pins σ H s1) E ⟨⟨old, he⟩, hit, pt⟩ fun h' tk hk htk => turnedL I hk hf
  self := fun A i s Q E st h => let ⟨⟨_, he⟩, _⟩ := st; wpAny_pyIter_enum he h
def iEnumT (K : PySem.W.Frag) (ta : TA) : TI := fun σ H R => ta σ H fun vs H1 => ∃ a xs, vs = [.ref a] ∧ SqT K H1 a xs ∧ R (Itet K a) H1
theorem pi_enumT {X : Cx} {e : Expr} {ta : TA} {p pos tpos : Pos} {elts : List Expr} {kk : Nat} (hg : Gl X "enumerate") (hm : X.mg "enumerate" = none) (ha : PA X [e] ta) (hs : starEach [e] X.env = [(false, eval e X.env)] := by rfl) :
    PI X (.Tuple elts kk tpos) (.Call (.Name "enumerate" p) [e] [] pos) (iEnumT X.K ta) := by
  refine ⟨fun pins s σ H R I h => Call_ (ld_blt I hg hm boot_enumerate (PyProof.Rows.callWith_type1 (thn (ha.run pos pins s σ H _ I h) fun us s1 ⟨vs, H1, I1, r1, q1⟩ => ?_) hs rfl))⟩
  obtain ⟨a, xs, ex, hq, q⟩ := q1
  subst ex
  cases r1 with
  | cons r rr =>
    cases rr
    cases r
    obtain ⟨its, rv, p', hz⟩ := I1.tuple hq
    refine enum1_begins (begins_tuple a its.toArray) p' fun h' he hit hk => wpAny_pyIter_enum he ?_
    have I2 : Inv X pins σ H1 { s1 with heap := h' } := I1.kept (t' := s1.toks) hk
    refine ⟨s1.heap.objs.size + 1, [s1.heap.objs.size + 1, s1.heap.objs.size], _, _, H1, rfl, I2, turn_enumT a (s1.heap.objs.size + 1) s1.heap.objs.size, ⟨⟨.none, he⟩, ⟨_, hit, rfl, rfl⟩, Nat.succ_ne_self _⟩, fun b hb => ?_, q⟩
    have e' : b = s1.heap.objs.size + 1 ∨ b = s1.heap.objs.size := by simpa using hb
    have hle : s1.heap.objs.size ≤ b := by
      rcases e' with z | z
      · rw [z]
        exact Nat.le_add_right _ _
      · rw [z]
        exact Nat.le_refl _
    exact I1.fpOk hle (I1.hok.fresh hle)
theorem walk_enumT {K : PySem.W.Frag} {a : Addr} {xs : List V} : Walk (Itet K a) xs.length (fun H => SqT K H a xs) (YPair (fun i => some (.int (i : Nat))) (fun i => xs[i]?)) := by
  refine ⟨fun i _ hi q => ⟨xs, xs[i], q, by simp [hi]⟩, fun _ q => ⟨xs, q, rfl⟩, fun i H v H' _ q y => ?_⟩
  obtain ⟨T, x, h1, h2, h3, h4⟩ := y
  exact ⟨T, .int (i : Nat), x, h1, h2, h3, rfl, h4 xs q⟩
end
end VF
set_option maxHeartbeats 4000000
/-! ## C. the text by places, its built-in names, values of our data -/
namespace VF
open PySem L2
def top (i : Nat) : Stmt := PySem.Challenge.pw_voicefold_k14_whole_polls_alike_joined_a.main.body.getD i (.Pass ⟨0, 0, 0, 0⟩)

/-- built-in names that the module leaves alone -/
structure Bt (mg : Str → Option Value) : Prop where
  isi : mg "isinstance" = none
  tyInt : mg "int" = none
  tyBool : mg "bool" = none
  tyStr : mg "str" = none
  tyTup : mg "tuple" = none
  tyLst : mg "list" = none
  tyDct : mg "dict" = none
  tySet : mg "set" = none
  rng : mg "range" = none
  enm : mg "enumerate" = none
  len : mg "len" = none
  all : mg "all" = none
  srt : mg "sorted" = none
  rpr : mg "repr" = none
  vE : mg "ValueError" = none
  kE : mg "KeyError" = none

def alph : Str := "abcdefghijklmnopqrstuvwxyz"
/-- the module's constants -/
structure Cn (mg : Str → Option Value) : Prop where
  letters : ∃ u, mg "LETTERS" = some u ∧ RelV (.str alph) u
  mostL : ∃ u, mg "MOST_LETTERS" = some u ∧ RelV (.int 8) u
  mostM : ∃ u, mg "MOST_MARK" = some u ∧ RelV (.int 9) u
  mostO : ∃ u, mg "MOST_OPTIONS" = some u ∧ RelV (.int 6) u
  mostR : ∃ u, mg "MOST_ROWS" = some u ∧ RelV (.int 30) u
  mostV : ∃ u, mg "MOST_VOICES" = some u ∧ RelV (.int 1000000) u

/-- isinstance, all: closed readings (a lemma can be laid upon them) -/
structure IsiR (K : PySem.W.Frag) (xs : List V) (H : Hp) (Q : VK) : Prop where
  h : rIsi K xs H Q
structure AllR (K : PySem.W.Frag) (xs : List V) (H : Hp) (Q : VK) : Prop where
  h : rAll K xs H Q
section
variable {X : Cx} {a b : Expr} {ta tb : TE} {p pos q : Pos} {K : PySem.W.Frag}
theorem e_all (hm : X.mg "all" = none) (hc : X.calm = true) (ha : PE X a ta) (hK : X.K = K := by rfl) (hg : Gl X "all" := by rfl) (he : starEach [a] X.env = (false, eval a X.env) :: starEach [] X.env := by rfl) : PE X (.Call (.Name "all" p) [a] [] pos) (tCB (AllR K) (tCons ta tNil)) := by
  subst hK
  exact pe_callB (r := AllR X.K) (fun pins s σ H vs us Q I r h => cr_all hc pins s σ H vs us Q I r h.h) hg hm (by decide +kernel) (pa_cons ha pa_nil he) (by decide) (by decide) he rfl
/-- len of a list or a tuple -/
def rLn (K : PySem.W.Frag) : List V → Hp → VK → Prop := fun xs H Q => ∃ p ys, xs = [.ref p] ∧ (SqL K H p ys ∨ SqT K H p ys) ∧ Q (.int ys.length) H
theorem e_len (hm : X.mg "len" = none) (ha : PE X a ta) (hK : X.K = K := by rfl) (hg : Gl X "len" := by rfl) (he : starEach [a] X.env = (false, eval a X.env) :: starEach [] X.env := by rfl) : PE X (.Call (.Name "len" p) [a] [] pos) (tCB (rLn K) (tCons ta tNil)) := by
  subst hK
  exact pe_callB call_len_seq hg hm (by decide +kernel) (pa_cons ha pa_nil he) (by decide) (by decide) he rfl
def rLnS (K : PySem.W.Frag) : List V → Hp → VK → Prop := fun xs H Q => ∃ x n, xs = [x] ∧ LenV K x H n ∧ Q (.int n) H
theorem e_lenS (hm : X.mg "len" = none) (ha : PE X a ta) (hK : X.K = K := by rfl) (hg : Gl X "len" := by rfl) (he : starEach [a] X.env = (false, eval a X.env) :: starEach [] X.env := by rfl) : PE X (.Call (.Name "len" p) [a] [] pos) (tCB (rLnS K) (tCons ta tNil)) := by
  subst hK
  exact pe_callB call_len hg hm (by decide +kernel) (pa_cons ha pa_nil he) (by decide) (by decide) he rfl
/-- tuple(..) of a list: a plain tuple -/
structure TupR (K : PySem.W.Frag) (xs : List V) (H : Hp) (Q : VK) : Prop where
  h : ∃ p ys, xs = [.ref p] ∧ SqL K H p ys ∧ ∀ l o, H l = none → o.dict = none → Q (.ref l) (upd H l (.frz o (.tup ys)))
theorem c_tuple : CallR X (.type "tuple") (TupR X.K) := by
  intro pins s σ H xs us Q I r h
  obtain ⟨p, ys, rfl, hq, q⟩ := h.h
  obtain ⟨u, rfl, rx⟩ := vals1 r
  cases rx
  obtain ⟨its, r', pl, hz⟩ := I.list hq
  have hlen : its.toArray.size ≤ sizeLine := by
    rw [List.size_toArray, ← r'.length]
    exact hz
  refine call_tuple_list pl.isList (fun h' kp => ?_) hlen
  have I1 : Inv X pins σ H { s with heap := h' } := I.kept (t' := s.toks) kp
  refine ⟨.ref h'.objs.size, _, I1.laid (t' := s.toks) (o := .frz { cls := .type "tuple", data := .seq its.toArray } (.tup ys)) (fun b o e => Heap.get?_push_of_some _ e) (Nat.le_refl _) ⟨?_, hz, its, r', PyProof.Rows.IsTup.new _ _⟩, rfl, q _ _ (I1.hok.fresh (Nat.le_refl _)) rfl⟩
  exact Heap.get?_push_size _ rfl
theorem e_tuple (hm : X.mg "tuple" = none) (ha : PE X a ta) (hK : X.K = K := by rfl) (hg : Gl X "tuple" := by rfl) (he : starEach [a] X.env = (false, eval a X.env) :: starEach [] X.env := by rfl) : PE X (.Call (.Name "tuple" p) [a] [] pos) (tCB (TupR K) (tCons ta tNil)) := by
  subst hK
  exact pe_callTy c_tuple hg hm (by decide +kernel) (pa_cons ha pa_nil he) (by decide) (by decide) he rfl
/-- list(..) of a list or a tuple -/
structure LstR (K : PySem.W.Frag) (xs : List V) (H : Hp) (Q : VK) : Prop where
  h : ∃ p ys, xs = [.ref p] ∧ (SqL K H p ys ∨ SqT K H p ys) ∧ ∀ l, H l = none → Q (.ref l) (upd H l (.lst ys))
theorem e_list (hm : X.mg "list" = none) (ha : PE X a ta) (hK : X.K = K := by rfl) (hg : Gl X "list" := by rfl) (he : starEach [a] X.env = (false, eval a X.env) :: starEach [] X.env := by rfl) : PE X (.Call (.Name "list" p) [a] [] pos) (tCB (LstR K) (tCons ta tNil)) := by
  subst hK
  exact pe_callTy (r := LstR X.K) (fun pins s σ H vs us Q I r h => call_list_of pins s σ H vs us Q I r h.h) hg hm (by decide +kernel) (pa_cons ha pa_nil he) (by decide) (by decide) he rfl
theorem e_isi (hm : X.mg "isinstance" = none) (ha : PE X a ta) (hb : PE X b tb) (hK : X.K = K := by rfl) (hg : Gl X "isinstance" := by rfl) (he : starEach [a, b] X.env = (false, eval a X.env) :: starEach [b] X.env := by rfl) (he2 : starEach [b] X.env = (false, eval b X.env) :: starEach [] X.env := by rfl) (hpl : (backTo pos (starEach [b] X.env)).any (·.1) = false := by rfl) :
    PE X (.Call (.Name "isinstance" p) [a, b] [] pos) (tCB (IsiR K) (tCons ta (tCons tb tNil))) := by
  subst hK
  exact pe_callB (r := IsiR X.K) (fun pins s σ H vs us Q I r h => call_isi pins s σ H vs us Q I r h.h) hg hm (by decide +kernel) (pa_cons ha (pa_cons hb pa_nil he2) he) (by decide) (by decide) he hpl
/-- a built-in class by its name -/
theorem e_ty (n : String) {x : Str} (hm : X.mg x = none) (hg : Gl X x := by rfl) (hv : bootBuiltins x = some (.type n) := by decide +kernel) (hn : x ≠ "__name__" := by decide) (hd : (x == ("__debug__" : Str)) = false := by decide) : PE X (.Name x pos) (tC (.ty n)) := pe_bltn hg hm hv rfl hn hd
/-- the same targets and walks, the written part told by its name -/
theorem g_tup {es : List Expr} {k : Nat} {t : TGs} {n : Nat} (hc : X.calm = true) (h : PGs X es t) (hK : X.K = K := by rfl)
    (hn : (assignEach es X.env).length = n := by rfl) (hst : (assignEach es X.env).findIdx? (·.1) = none := by rfl) : PG X (.Tuple es k pos) (gTup K n t) := by
  subst hK
  exact pg_tup hc h hn hst
theorem i_tup {tg l : Expr} {tl : TE} (hl : PE X l tl) (hK : X.K = K := by rfl) : PI X tg l (iTup K tl) := by
  subst hK
  exact pi_tup hl
theorem i_list {tg l : Expr} {tl : TE} (hl : PE X l tl) (hK : X.K = K := by rfl) : PI X tg l (iList K tl) := by
  subst hK
  exact pi_list hl
end

/-! ### the kinds of data -/
def tyN : PyData → String
  | .none => "NoneType"
  | .bool _ => "bool"
  | .int _ => "int"
  | .str _ => "str"
  | .list _ => "tuple"
  | .tuple _ => "tuple"
  | .dict _ => "dict"
section
variable {K : PySem.W.Frag} {H : Hp}
theorem Dt.tyx {v : V} {d : PyData} (h : Dt K H v d) : TyX K H v (.type (tyN d)) := by
  cases h with
  | non => exact .base .non
  | bl b => exact .base (.bl b)
  | int i => exact .base (.int i)
  | str x => exact .base (.str x)
  | tup h t =>
    rcases h with (h | ⟨o, h⟩) | ⟨o, its, n, h, hc, _⟩
    · exact .base (.tup h)
    · exact .fTuple h
    · exact .kTuple h hc
  | plain h n t => exact .fTuple h
theorem isi_d {v : V} {d : PyData} {T : String} {b : Bool} {Q : VK} (h : Dt K H v d) (e : kitB (tyN d) T = some b) (q : Q (.bl b) H) : IsiR K [v, .ty T] H Q := ⟨v, .ty T, _, _, b, rfl, .ty T, h.tyx, kit_ty e, q⟩
end
/-- is a datum of that built-in type -/
def isTy (T : String) (d : PyData) : Bool := tyN d == T
theorem kit_str (d : PyData) : kitB (tyN d) "str" = some (isTy "str" d) := by cases d <;> (simp only [tyN, isTy]; decide +kernel)
theorem kit_tup (d : PyData) : kitB (tyN d) "tuple" = some (isTy "tuple" d) := by cases d <;> (simp only [tyN, isTy]; decide +kernel)

section
variable {K : PySem.W.Frag} {H : Hp} {v : V} {d : PyData} {Q : VK}
theorem isi_str (h : Dt K H v d) (q : Q (.bl (isTy "str" d)) H) : IsiR K [v, .ty "str"] H Q := isi_d h (kit_str d) q
theorem isi_tup (h : Dt K H v d) (q : Q (.bl (isTy "tuple" d)) H) : IsiR K [v, .ty "tuple"] H Q := isi_d h (kit_tup d) q
theorem isi_int {i : Int} (q : Q (.bl true) H) : IsiR K [.int i, .ty "int"] H Q := isi_d (Dt.int i) (show kitB "int" "int" = some true by decide +kernel) q
theorem isi_nobool {i : Int} (q : Q (.bl false) H) : IsiR K [.int i, .ty "bool"] H Q := isi_d (Dt.int i) (show kitB "int" "bool" = some false by decide +kernel) q
theorem isi_isStr {x : Str} (q : Q (.bl true) H) : IsiR K [.str x, .ty "str"] H Q := isi_d (Dt.str x) (show kitB "str" "str" = some true by decide +kernel) q
theorem isi_isTup {ds : List PyData} (h : Dt K H v (.tuple ds)) (q : Q (.bl true) H) : IsiR K [v, .ty "tuple"] H Q := isi_d h (show kitB "tuple" "tuple" = some true by decide +kernel) q
theorem isi_isPl {ds : List PyData} (h : Dt K H v (.list ds)) (q : Q (.bl true) H) : IsiR K [v, .ty "tuple"] H Q := isi_d h (show kitB "tuple" "tuple" = some true by decide +kernel) q
/-- all(..) of a list of truths -/
theorem all_d {l : Addr} {ys : List V} {bs : List Bool} (h : H l = some (.lst ys)) (hd : Dts K H ys (bs.map PyData.bool)) (q : Q (.bl (bs.all id)) H) : AllR K [.ref l] H Q := ⟨l, bs, rfl, by rw [← hd.to_bls]; exact SqL.of h, q⟩
end
theorem all_b {K : PySem.W.Frag} {H : Hp} {Q : VK} {l : Addr} {bs : List Bool} (h : H l = some (.lst (bs.map V.bl))) (q : Q (.bl (bs.all id)) H) : AllR K [.ref l] H Q := ⟨l, bs, rfl, SqL.of h, q⟩
theorem filterMap_some {α β : Type} (f : α → β) : ∀ l : List α, l.filterMap (fun x => some (f x)) = l.map f
  | [] => rfl
  | x :: r => by simp
section
variable {K : PySem.W.Frag} {J : It} {G : Hp → Prop} {Y : Nat → Hp → V → Hp → Prop}
/-- a comprehension without a test, its elements data -/
theorem lc_m {β : Type} (ds : List β) (f : β → PyData) (w : Walk J ds.length G Y) {g : TG} {te : TE} {vs : List Nat} {σ : St} {H1 : Hp} {D : Addr} {Qd : Hp → Prop} (hD : H1 D = none) (hn : ds.length < sizeLine)
    (hG : ∀ H, Same H1 H → G H)
    (hs : ∀ (i : Nat) (b : β) (x : V) (H H' : Hp), ds[i]? = some b → Same H1 H → Y i H x H' → Same H H' ∧ ∀ (A : V → Hp → Prop),
      (∀ y H4, Same H' H4 → Dt K H4 y (f b) → A y H4) → g x (wipe σ vs) H' fun σ2 H2 => wipe σ2 vs = wipe σ vs ∧ te σ2 H2 A)
    (hd : ∀ H ys, Same H1 H → H D = some (.lst ys) → Dts K H ys (ds.map f) → Qd H) :
    ∃ W : Nat → Nat → Hp → Prop, (∃ m, W 0 m (upd H1 D (.lst []))) ∧ ∀ i m H, W i m H →
      (J.stop i H ∧ Qd H) ∨ (J.go i H ∧ ∃ Nx : Hp → Prop, (∀ H', Nx H' → ∃ m', m' < m ∧ W (i + 1) m' H') ∧ ∀ x H', J.yld i H x H' → g x (wipe σ vs) H' fun σ2 H2 => wipe σ2 vs = wipe σ vs ∧ tYes σ2 H2 fun b H3 =>
        if b = true then te σ2 H3 fun y H4 => ∃ acc, H4 D = some (.lst acc) ∧ acc.length < sizeLine ∧ Nx (upd H4 D (.lst (acc ++ [y]))) else Nx H3) := by
  refine lc_it w (fun i H => Same H1 H ∧ ∃ ys, H D = some (.lst ys) ∧ Dts K H ys ((ds.take i).map f)) ⟨L2.Same.put hD, [], upd_same, by rw [List.take_zero]; exact .nil⟩ (fun i H _ h => hG H h.1) ?_ ?_
  · rintro i x H H' hi ⟨s, ys, hy, hl⟩ y
    have e : ds[i]? = some ds[i] := by simp [hi]
    obtain ⟨s', k⟩ := hs i ds[i] x H H' e s y
    have k2 := k (fun y H4 => ∃ acc, H4 D = some (.lst acc) ∧ acc.length < sizeLine ∧ Same H1 (upd H4 D (.lst (acc ++ [y]))) ∧ ∃ zs, upd H4 D (.lst (acc ++ [y])) D = some (.lst zs) ∧ Dts K (upd H4 D (.lst (acc ++ [y]))) zs ((ds.take (i + 1)).map f)) (fun y H4 s4 hy4 => by
      have q : H4 D = some (.lst ys) := s4 _ _ (s' _ _ hy)
      refine ⟨ys, q, ?_, (s.trans (s'.trans s4)).over hD, _, upd_same, ?_⟩
      · rw [hl.length, List.length_map, List.length_take]
        exact Nat.lt_of_le_of_lt (Nat.min_le_right ..) hn
      · rw [List.take_succ_eq_append_getElem hi, List.map_append]
        have t : Tk K H4 (upd H4 D (.lst (ys ++ [y]))) := Tk.upd (by rw [q]; exact Soft.lst)
        exact ((hl.same (s'.trans s4)).snoc hy4).mono t)
    exact k2
  · rintro H ⟨s, ys, hy, hl⟩
    rw [List.take_length] at hl
    exact hd H ys s hy hl
/-- a comprehension of truths -/
theorem lc_b {β : Type} (ds : List β) (f : β → Bool) (w : Walk J ds.length G Y) {g : TG} {te : TE} {vs : List Nat} {σ : St} {H1 : Hp} {D : Addr} {Qd : Hp → Prop} (hD : H1 D = none) (hn : ds.length < sizeLine)
    (hG : ∀ H, Same H1 H → G H)
    (hs : ∀ (i : Nat) (b : β) (x : V) (H H' : Hp), ds[i]? = some b → Same H1 H → Y i H x H' → Same H H' ∧ ∀ (A : V → Hp → Prop),
      (∀ H4, Same H' H4 → A (.bl (f b)) H4) → g x (wipe σ vs) H' fun σ2 H2 => wipe σ2 vs = wipe σ vs ∧ te σ2 H2 A)
    (hd : ∀ H, Same H1 H → H D = some (.lst ((ds.map f).map V.bl)) → Qd H) :
    ∃ W : Nat → Nat → Hp → Prop, (∃ m, W 0 m (upd H1 D (.lst []))) ∧ ∀ i m H, W i m H →
      (J.stop i H ∧ Qd H) ∨ (J.go i H ∧ ∃ Nx : Hp → Prop, (∀ H', Nx H' → ∃ m', m' < m ∧ W (i + 1) m' H') ∧ ∀ x H', J.yld i H x H' → g x (wipe σ vs) H' fun σ2 H2 => wipe σ2 vs = wipe σ vs ∧ tYes σ2 H2 fun b H3 =>
        if b = true then te σ2 H3 fun y H4 => ∃ acc, H4 D = some (.lst acc) ∧ acc.length < sizeLine ∧ Nx (upd H4 D (.lst (acc ++ [y]))) else Nx H3) := by
  -- the frag does not matter here: any one will do
  refine lc_m (K := []) ds (fun b => .bool (f b)) w hD hn hG (fun i b x H H' e s y => ?_) (fun H ys s hy hl => ?_)
  · obtain ⟨s', k⟩ := hs i b x H H' e s y
    exact ⟨s', fun A hA => k A fun H4 s4 => hA _ _ s4 (.bl _)⟩
  · have e1 : ds.map (fun b => PyData.bool (f b)) = (ds.map f).map PyData.bool := by simp
    rw [e1] at hl
    rw [hl.to_bls] at hy
    exact hd H s hy
end
/-- a new pair is laid, the heap is else as it was -/
theorem ypair_same {xs ys : Nat → Option V} {i : Nat} {H H' : Hp} {x : V} (h : YPair xs ys i H x H') : Same H H' := by
  obtain ⟨T, y, z, _, hT, rfl, _⟩ := h
  exact L2.Same.put hT

/-! ### in, slices -/
structure InR (K : PySem.W.Frag) (neg : Bool) (x y : V) (H : Hp) (Q : VK) : Prop where
  h : rIn K neg x y H Q
theorem o_in {X : Cx} {K : PySem.W.Frag} (hK : X.K = K := by rfl) : OpR X (compareOp .In) (InR K false) := by
  subst hK
  exact fun pins s σ H x y v u Q I rx ry h => op_in_seq pins s σ H x y v u Q I rx ry h.h
theorem o_nin {X : Cx} {K : PySem.W.Frag} (hK : X.K = K := by rfl) : OpR X (compareOp .NotIn) (InR K true) := by
  subst hK
  exact fun pins s σ H x y v u Q I rx ry h => op_notIn_seq pins s σ H x y v u Q I rx ry h.h
theorem inV_strs (x : Str) (xs : List Str) : inV (.str x) (xs.map V.str) = decide (x ∈ xs) := by
  unfold inV
  induction xs with
  | nil => rfl
  | cons y r ih =>
    rw [List.map_cons, List.any_cons, ih]
    have e1 : eqV (.str y) (.str x) = (y == x) := rfl
    rw [e1]
    by_cases h : y = x
    · subst h
      simp
    · have h2 : ¬ x = y := fun z => h z.symm
      simp [h, h2]
theorem flat_strs (xs : List Str) : (xs.map V.str).all flatV = true := by
  simp [List.all_eq_true, flatV]
section
variable {K : PySem.W.Frag} {H : Hp} {Q : VK} {x : Str} {xs : List Str} {p : Addr}
theorem in_s (h : SqL K H p (xs.map V.str) ∨ SqT K H p (xs.map V.str)) (q : Q (.bl (decide (x ∈ xs))) H) : InR K false (.str x) (.ref p) H Q :=
  ⟨p, _, rfl, h, rfl, flat_strs xs, by rw [inV_strs]; exact q⟩
theorem nin_s (h : SqL K H p (xs.map V.str) ∨ SqT K H p (xs.map V.str)) (q : Q (.bl (!decide (x ∈ xs))) H) : InR K true (.str x) (.ref p) H Q :=
  ⟨p, _, rfl, h, rfl, flat_strs xs, by rw [inV_strs]; exact q⟩
end
theorem cutV_whole {xs : List V} {lo hi : Option Int} (h : HT.sIx xs.length 0 lo = 0 ∧ HT.sIx xs.length xs.length hi = xs.length) : cutV xs lo hi = xs := by
  unfold cutV
  rw [h.1, h.2]
  simp
theorem cutV_take (xs : List V) (i : Nat) : cutV xs none (some (i : Int)) = xs.take i := by
  unfold cutV
  rw [HT.sIx_none, HT.sIx_nat, List.drop_zero, Nat.sub_zero, ← List.take_eq_take_min]
theorem ix_t {X : Cx} {K : PySem.W.Frag} (hK : X.K = K := by rfl) : IxR X (rIxT K) := by
  subst hK
  exact ix_tup
theorem ix_l {X : Cx} {K : PySem.W.Frag} (hK : X.K = K := by rfl) : IxR X (rIxL K) := by
  subst hK
  exact ix_list
structure SltR (K : PySem.W.Frag) (x : V) (lo hi : Option Int) (H : Hp) (Q : VK) : Prop where
  h : rSlA K x lo hi H Q
structure SllR (K : PySem.W.Frag) (x : V) (lo hi : Option Int) (H : Hp) (Q : VK) : Prop where
  h : rSlL K x lo hi H Q
theorem o_slt {X : Cx} {K : PySem.W.Frag} (hK : X.K = K := by rfl) : SlR X (SltR K) := by
  subst hK
  exact fun pins s σ H x v vl vu lo hi sl Q I rx hs pl pu h => sl_tupA pins s σ H x v vl vu lo hi sl Q I rx hs pl pu h.h
theorem o_sll {X : Cx} {K : PySem.W.Frag} (hK : X.K = K := by rfl) : SlR X (SllR K) := by
  subst hK
  exact fun pins s σ H x v vl vu lo hi sl Q I rx hs pl pu h => sl_list pins s σ H x v vl vu lo hi sl Q I rx hs pl pu h.h
section
variable {K : PySem.W.Frag} {H : Hp} {Q : VK} {xs : List V} {a : Addr} {lo hi : Option Int}
theorem slt (h : SqT K H a xs) (k : ∀ H' p, Same H H' → SqT K H' p (cutV xs lo hi) → Q (.ref p) H') : SltR K (.ref a) lo hi H Q :=
  ⟨a, xs, rfl, h, fun w => k H a (Same.refl H) (by rw [cutV_whole w]; exact h), fun _ p hp => k _ p (L2.Same.put hp) (SqT.of upd_same)⟩
theorem sll (h : SqL K H a xs) (k : ∀ H' p, Same H H' → H' p = some (.lst (cutV xs lo hi)) → Q (.ref p) H') : SllR K (.ref a) lo hi H Q :=
  ⟨a, xs, rfl, h, fun p hp => k _ p (L2.Same.put hp) upd_same⟩
end

/-! ### tuple(..), list(..) -/
section
variable {K : PySem.W.Frag} {H : Hp} {Q : VK} {l : Addr} {ys : List V}
theorem tup_l (h : H l = some (.lst ys)) (q : ∀ p H' o, Same H H' → H p = none → o.dict = none → H' p = some (.frz o (.tup ys)) → Q (.ref p) H') : TupR K [.ref l] H Q := ⟨l, ys, rfl, SqL.of h, fun p o hp n => q p _ o (L2.Same.put hp) hp n upd_same⟩
/-- of a list whose items are data -/
theorem tup_d {ds : List PyData} (h : H l = some (.lst ys)) (hd : Dts K H ys ds) (q : ∀ v H', Same H H' → Dt K H' v (.tuple ds) → Q v H') : TupR K [.ref l] H Q :=
  tup_l h fun p H' o s _ n hp => q _ H' s (.tup (.inl (.inr ⟨o, hp⟩)) (hd.same s))
theorem tup_p {ds : List PyData} (h : H l = some (.lst ys)) (hd : Dts K H ys ds) (q : ∀ v H', Same H H' → Dt K H' v (.list ds) → Q v H') : TupR K [.ref l] H Q :=
  tup_l h fun p H' o s _ n hp => q _ H' s (.plain hp n (hd.same s))
theorem lst_s (h : SqL K H l ys ∨ SqT K H l ys) (q : ∀ p H', Same H H' → H p = none → H' p = some (.lst ys) → Q (.ref p) H') : LstR K [.ref l] H Q := ⟨l, ys, rfl, h, fun p hp => q p _ (L2.Same.put hp) hp upd_same⟩
end

/-! ### names -/
def isLetter (c : Nat) : Bool := decide (c ∈ alph.cps.toList)
def isNameS (x : Str) : Bool := decide (1 ≤ x.length) && decide (x.length ≤ 8) && x.cps.toList.all isLetter
def isNameD : PyData → Bool
  | .str x => isNameS x
  | _ => false
/-- no two alike -/
def unlike (xs : List Str) : Bool := (List.range xs.length).all fun i => !decide (xs.getD i "" ∈ xs.take i)
def someOf (xs os : List Str) : Bool := xs.all fun x => decide (x ∈ os)
end VF
set_option maxHeartbeats 4000000
/-! ## D. the words: is_whole, is_name, are_unlike, are_some_of -/
namespace VF
open PySem L2
abbrev s7 : Stmt := top 7
abbrev s8 : Stmt := top 8
abbrev s9 : Stmt := top 9
abbrev s10 : Stmt := top 10
/-- a list or a tuple of texts -/
def Nms (K : PySem.W.Frag) (H : Hp) (v : V) (xs : List Str) : Prop := ∃ a, v = .ref a ∧ (SqL K H a (xs.map V.str) ∨ SqT K H a (xs.map V.str))
theorem notStr {d : PyData} (h : isTy "str" d = false) : isNameD d = false := by
  cases d <;> first | rfl | (simp [isTy, tyN] at h)
theorem isStr {d : PyData} (h : isTy "str" d = true) : ∃ x, d = .str x := by
  cases d <;> first | exact ⟨_, rfl⟩ | (exact absurd h (by simp only [isTy, tyN]; decide))
def spWhole : Sp := fun vs H Q _ => ∃ i : Int, vs = [.int i] ∧ Q (.bl true) H
def spName (K : PySem.W.Frag) : Sp := fun vs H Q _ => ∃ v d, vs = [v] ∧ Dt K H v d ∧ (∀ x, d = .str x → x.length ≤ 1000) ∧ ∀ H', Same H H' → Q (.bl (isNameD d)) H'
def spUnlike (K : PySem.W.Frag) : Sp := fun vs H Q _ => ∃ v xs, vs = [v] ∧ Nms K H v xs ∧ xs.length ≤ 1000 ∧ ∀ H', Same H H' → Q (.bl (unlike xs)) H'
def spSome (K : PySem.W.Frag) : Sp := fun vs H Q _ => ∃ v o xs os, vs = [v, o] ∧ Nms K H v xs ∧ Dt K H o (.tuple (os.map PyData.str)) ∧ xs.length ≤ 1000 ∧ ∀ H', Same H H' → Q (.bl (someOf xs os && unlike xs)) H'
section
variable {P : Program} {w : World} {K : PySem.W.Frag} {mg : Str → Option Value} {base : Heap}
theorem sc7 : FnScope ["thing"] ["thing"] (defScope s7) := ⟨rfl, rfl, rfl, by decide +kernel, rfl, by decide +kernel, by decide +kernel⟩
theorem ok_whole {f : Addr} {fd : FuncData} (F : Fun K "is_whole" "is_whole" s7 f fd) (B : Bt mg) : FnOk P w K mg base CX0 1 f fd ["thing"] spWhole := by
  refine F.ok sc7 (fun vs H Q E h => ?_) (fun cdv A outer s H vs Q E hr h => ?_)
  · obtain ⟨i, rfl, _⟩ := h
    rfl
  · obtain ⟨i, rfl, k⟩ := h
    refine ⟨_, pss_one (ps_ret (pe_and (e_isi (K := K) B.isi (pv 0) (e_ty "int" B.tyInt)) (pe_one (pe_not (e_isi (K := K) B.isi (pv 0) (e_ty "bool" B.tyBool)))))), ?_⟩
    exact ⟨_, rfl, isi_int ⟨true, rfl, iteT ⟨_, rfl, isi_nobool ⟨false, rfl, k⟩⟩⟩⟩
theorem sc8 : FnScope ["thing", "sign"] ["thing"] (defScope s8) := ⟨rfl, rfl, rfl, by decide +kernel, rfl, by decide +kernel, by decide +kernel⟩
theorem ok_name {f : Addr} {fd : FuncData} (F : Fun K "is_name" "is_name" s8 f fd) (B : Bt mg) (C : Cn mg) : FnOk P w K mg base CX0 1 f fd ["thing"] (spName K) := by
  refine F.ok sc8 (fun vs H Q E h => ?_) (fun cdv A outer s H vs Q E hr h => ?_)
  · obtain ⟨v, d, rfl, _⟩ := h
    rfl
  · obtain ⟨v, d, rfl, hd, hx, k⟩ := h
    refine ⟨_, pss_cons (ps_if (PW.pt (pw_or (pt_not (pt_val (e_isi (K := K) B.isi (pv 0) (e_ty "str" B.tyStr)))) (pw_or1 (pt_not (pt_chain op_le op_le pe_int (e_lenS (K := K) B.len (pv 0)) (C8.pe_gc (by rfl) C.mostL))))))
        (pss_one (ps_ret pe_bl)) pss_nil)
      (pss_one (ps_ret (e_all (K := K) B.all rfl (pe_lc (own := [("sign", 1)]) rfl sc8.nd (pi_str (pv 0)) (blkOk_by (N := ["thing", "sign"]) (sc := defScope s8) (by decide +kernel)) (fun _ _ _ _ _ => pg_name (i := 1) sc8.nd rfl (Or.inl rfl)) (fun _ _ _ _ _ => pts_nil)
        (fun _ _ _ _ _ => pe_cmpR op_in_sign (pv 1) (C8.pe_gc (by rfl) C.letters) (by rfl)))))), ?_⟩
    refine ⟨_, rfl, isi_str hd ⟨_, rfl, ?_⟩⟩
    cases e : isTy "str" d with
    | false =>
      refine iteT (iteT ?_)
      have q := k H (Same.refl H)
      rw [notStr e] at q
      exact q
    | true =>
      obtain ⟨x, rfl⟩ := isStr e
      cases hd
      have hl := hx x rfl
      refine iteF ⟨_, rfl, _, _, rfl, ⟨Nat.le_trans hl (by decide), rfl⟩, 1, (x.length : Int), rfl, rfl, _, rfl, ?_⟩
      have fin : isNameS x = false → Q (.bl false) H := fun z => by
        have q := k H (Same.refl H)
        rw [show isNameD (.str x) = isNameS x from rfl, z] at q
        exact q
      by_cases h1 : 1 ≤ x.length
      · rw [decide_eq_true (show (1 : Int) ≤ (x.length : Int) by omega)]
        refine iteT ⟨_, 8, rfl, rfl, _, rfl, ?_⟩
        by_cases h8 : x.length ≤ 8
        · rw [decide_eq_true (show (x.length : Int) ≤ 8 by omega)]
          refine iteF ?_
          refine ⟨_, rfl, x, rfl, fun D hD => lc_b x.cps.toList isLetter (walk_str (z := x)) hD (Nat.lt_of_le_of_lt hl (by decide)) (fun _ _ => True.intro) ?_ fun H1 sm hy => all_b hy ?_⟩
          · rintro i b y H1 H2 hb sm ⟨rfl, c, hc, rfl⟩
            obtain rfl : b = c := by
              rw [← Array.getElem?_toList, hb] at hc
              exact Option.some.inj hc
            exact ⟨Same.refl _, fun A hA => ⟨rfl, _, rfl, b, alph, rfl, rfl, hA _ (Same.refl _)⟩⟩
          · have q := k H1 sm
            have e1 : isNameD (.str x) = (x.cps.toList.map isLetter).all id := by
              show isNameS x = _
              simp [isNameS, h1, h8, List.all_map]
            rw [e1] at q
            exact q
        · rw [decide_eq_false (show ¬ (x.length : Int) ≤ 8 by omega)]
          refine iteT (fin ?_)
          simp [isNameS, h8]
      · rw [decide_eq_false (show ¬ (1 : Int) ≤ (x.length : Int) by omega)]
        refine iteF ⟨_, rfl, iteT (fin ?_)⟩
        simp [isNameS, h1]
theorem sc9 : FnScope ["some", "at", "one"] ["some"] (defScope s9) := ⟨rfl, rfl, rfl, by decide +kernel, rfl, by decide +kernel, by decide +kernel⟩
theorem unlike_eq (xs : List Str) : unlike xs = ((List.range xs.length).map fun i => !decide (xs.getD i "" ∈ xs.take i)).all id := by
  rw [List.all_map]
  rfl
theorem ok_unlike {f : Addr} {fd : FuncData} (F : Fun K "are_unlike" "are_unlike" s9 f fd) (B : Bt mg) : FnOk P w K mg base CX0 1 f fd ["some"] (spUnlike K) := by
  refine F.ok sc9 (fun vs H Q E h => ?_) (fun cdv A outer s H vs Q E hr h => ?_)
  · obtain ⟨v, xs, rfl, _⟩ := h
    rfl
  · obtain ⟨v, xs, rfl, ⟨a, rfl, hs⟩, hl, k⟩ := h
    have hl' : (List.range (xs.map V.str).length).length < sizeLine := by simpa using Nat.lt_of_le_of_lt hl (by decide)
    have en : (List.range xs.length).length = (xs.map V.str).length := by simp
    have item : ∀ {i : Nat} {z : V} {b : Nat}, (List.range xs.length)[i]? = some b → (xs.map V.str)[i]? = some z → b = i ∧ z = .str (xs.getD i "") := fun {i z b} hb hz => by
      rw [List.getElem?_map] at hz
      cases e : xs[i]? with
      | none =>
        rw [e] at hz
        cases hz
      | some u =>
        rw [e] at hz
        cases hz
        have hi := (List.getElem?_eq_some_iff.mp hb)
        obtain ⟨hi, eb⟩ := hi
        refine ⟨by simpa using eb.symm, ?_⟩
        rw [List.getD_eq_getElem?_getD, e]
        rfl
    have fin : ∀ {Hz : Hp}, Same H Hz → Q (.bl (((List.range xs.length).map fun i => !decide (xs.getD i "" ∈ xs.take i)).all id)) Hz := fun {Hz} sm => by
      rw [← unlike_eq]
      exact k Hz sm
    rcases hs with hs | hs
    · refine ⟨_, pss_one (ps_ret (e_all (K := K) B.all rfl (pe_lc (own := [("at", 1), ("one", 2)]) rfl sc9.nd (pi_enum (by rfl) B.enm (pa_cons (pv 0) pa_nil)) (blkOk_by (N := ["some", "at", "one"]) (sc := defScope s9) (by decide +kernel))
        (fun _ _ _ _ _ => g_tup (K := K) (n := 2) rfl (by exact pgs_cons (pg_name (i := 1) sc9.nd rfl (Or.inl rfl)) (pgs_cons (pg_name (i := 2) sc9.nd rfl (Or.inl rfl)) pgs_nil))) (fun _ _ _ _ _ => pts_nil)
        (fun _ _ _ _ _ => pe_cmpR (o_nin (K := K)) (pv 2) (pe_slice (o_sll (K := K)) (pv 0) po_none (po_some (pv 1))) (by rfl))))), ?_⟩
      refine ⟨_, rfl, a, _, rfl, hs, fun D hD => lc_b (List.range xs.length) (fun i => !decide (xs.getD i "" ∈ xs.take i)) (en ▸ walk_enum (K := K) (a := a) (xs := xs.map V.str)) hD (by simpa using hl') (fun H1 sm => sm.seq hs) ?_ fun H1 sm hy => all_b hy (fin sm)⟩
      intro i b x H1 H2 hb sm y
      have sy := ypair_same y
      refine ⟨sy, fun A hA => ?_⟩
      obtain ⟨T, y1, y2, rfl, hT, rfl, h1, h2⟩ := y
      cases h1
      obtain ⟨rfl, rfl⟩ := item hb h2
      refine ⟨T, _, rfl, SqT.of upd_same, rfl, _, _, rfl, _, _, rfl, rfl, rfl, _, rfl, _, rfl, _, rfl, _, rfl, sll ((sm.trans sy).seq hs) fun H3 p s3 hp => nin_s (xs := xs.take b) (.inl ?_) (hA _ s3)⟩
      rw [cutV_take, ← List.map_take] at hp
      exact SqL.of hp
    · refine ⟨_, pss_one (ps_ret (e_all (K := K) B.all rfl (pe_lc (own := [("at", 1), ("one", 2)]) rfl sc9.nd (pi_enumT (by rfl) B.enm (pa_cons (pv 0) pa_nil)) (blkOk_by (N := ["some", "at", "one"]) (sc := defScope s9) (by decide +kernel))
        (fun _ _ _ _ _ => g_tup (K := K) (n := 2) rfl (by exact pgs_cons (pg_name (i := 1) sc9.nd rfl (Or.inl rfl)) (pgs_cons (pg_name (i := 2) sc9.nd rfl (Or.inl rfl)) pgs_nil))) (fun _ _ _ _ _ => pts_nil)
        (fun _ _ _ _ _ => pe_cmpR (o_nin (K := K)) (pv 2) (pe_slice (o_slt (K := K)) (pv 0) po_none (po_some (pv 1))) (by rfl))))), ?_⟩
      refine ⟨_, rfl, a, _, rfl, hs, fun D hD => lc_b (List.range xs.length) (fun i => !decide (xs.getD i "" ∈ xs.take i)) (en ▸ walk_enumT (K := K) (a := a) (xs := xs.map V.str)) hD (by simpa using hl') (fun H1 sm => same_t sm hs) ?_ fun H1 sm hy => all_b hy (fin sm)⟩
      intro i b x H1 H2 hb sm y
      have sy := ypair_same y
      refine ⟨sy, fun A hA => ?_⟩
      obtain ⟨T, y1, y2, rfl, hT, rfl, h1, h2⟩ := y
      cases h1
      obtain ⟨rfl, rfl⟩ := item hb h2
      refine ⟨T, _, rfl, SqT.of upd_same, rfl, _, _, rfl, _, _, rfl, rfl, rfl, _, rfl, _, rfl, _, rfl, _, rfl, slt (same_t (sm.trans sy) hs) fun H3 p s3 hp => nin_s (xs := xs.take b) (.inr ?_) (hA _ s3)⟩
      rw [cutV_take, ← List.map_take] at hp
      exact hp
theorem sc10 : FnScope ["some", "options", "one"] ["some", "options"] (defScope s10) := ⟨rfl, rfl, rfl, by decide +kernel, rfl, by decide +kernel, by decide +kernel⟩
theorem ok_someOf {f : Addr} {fd : FuncData} (F : Fun K "are_some_of" "are_some_of" s10 f fd) (B : Bt mg) (U : C8.Cal P w K mg base 1 "are_unlike" (spUnlike K) []) : FnOk P w K mg base CX0 2 f fd ["some", "options"] (spSome K) := by
  refine F.ok sc10 (fun vs H Q E h => ?_) (fun cdv A outer s H vs Q E hr h => ?_)
  · obtain ⟨v, o, xs, os, rfl, _⟩ := h
    rfl
  · obtain ⟨v, o, xs, os, rfl, ⟨a, rfl, hs⟩, ho, hl, k⟩ := h
    obtain ⟨b, rfl, hb⟩ := ho.names_inv
    have hl' : xs.length < sizeLine := Nat.lt_of_le_of_lt hl (by decide)
    have item : ∀ {i : Nat} {z : V} {c : Str}, xs[i]? = some c → (xs.map V.str)[i]? = some z → z = .str c := fun {i z c} h1 h2 => by
      rw [List.getElem?_map, h1] at h2
      cases h2
      rfl
    have e1 : (xs.map fun x => decide (x ∈ os)).all id = someOf xs os := by
      rw [List.all_map]
      rfl
    have hs' := hs
    rcases hs with hs | hs
    · refine ⟨_, pss_one (ps_ret (pe_and (e_all (K := K) B.all rfl (pe_lc (own := [("one", 2)]) rfl sc10.nd (i_list (K := K) (pv 0)) (blkOk_by (N := ["some", "options", "one"]) (sc := defScope s10) (by decide +kernel))
        (fun _ _ _ _ _ => pg_name (i := 2) sc10.nd rfl (Or.inl rfl)) (fun _ _ _ _ _ => pts_nil) (fun _ _ _ _ _ => pe_and (e_isi (K := K) B.isi (pv 2) (e_ty "str" B.tyStr)) (pe_one (pe_cmpR (o_in (K := K)) (pv 2) (pv 1) (by rfl))))))
        (pe_one (C8.pe_c U hr (by decide) (by rfl) (pa_cons (pv 0) pa_nil))))), ?_⟩
      refine ⟨_, rfl, a, rfl, ⟨_, hs⟩, fun D hD => lc_b xs (fun x => decide (x ∈ os)) (by simpa using walk_list (K := K) (a := a) (xs := xs.map V.str)) hD hl' (fun H1 sm => sm.seq hs) ?_ fun H1 sm hy => ?_⟩
      · rintro i c x H1 H2 hc sm ⟨rfl, hx⟩
        obtain rfl := item hc hx
        exact ⟨Same.refl _, fun A hA => ⟨rfl, _, rfl, isi_isStr ⟨_, rfl, iteT ⟨_, rfl, _, rfl, in_s (.inr (same_t sm hb)) (hA _ (Same.refl _))⟩⟩⟩⟩
      · refine all_b hy ⟨_, rfl, ?_⟩
        rw [e1]
        cases e2 : someOf xs os with
        | true =>
          refine iteT ⟨_, rfl, .ref a, xs, rfl, ⟨a, rfl, hs'.imp (fun z => sm.seq z) fun z => same_t sm z⟩, hl, fun H3 s3 => ?_⟩
          have q := k _ (sm.trans s3)
          rw [e2] at q
          exact q
        | false =>
          have q := k _ sm
          rw [e2] at q
          exact iteF q
    · refine ⟨_, pss_one (ps_ret (pe_and (e_all (K := K) B.all rfl (pe_lc (own := [("one", 2)]) rfl sc10.nd (i_tup (K := K) (pv 0)) (blkOk_by (N := ["some", "options", "one"]) (sc := defScope s10) (by decide +kernel))
        (fun _ _ _ _ _ => pg_name (i := 2) sc10.nd rfl (Or.inl rfl)) (fun _ _ _ _ _ => pts_nil) (fun _ _ _ _ _ => pe_and (e_isi (K := K) B.isi (pv 2) (e_ty "str" B.tyStr)) (pe_one (pe_cmpR (o_in (K := K)) (pv 2) (pv 1) (by rfl))))))
        (pe_one (C8.pe_c U hr (by decide) (by rfl) (pa_cons (pv 0) pa_nil))))), ?_⟩
      refine ⟨_, rfl, a, rfl, ⟨_, hs⟩, fun D hD => lc_b xs (fun x => decide (x ∈ os)) (by simpa using walk_tup (K := K) (a := a) (xs := xs.map V.str)) hD hl' (fun H1 sm => same_t sm hs) ?_ fun H1 sm hy => ?_⟩
      · rintro i c x H1 H2 hc sm ⟨rfl, hx⟩
        obtain rfl := item hc hx
        exact ⟨Same.refl _, fun A hA => ⟨rfl, _, rfl, isi_isStr ⟨_, rfl, iteT ⟨_, rfl, _, rfl, in_s (.inr (same_t sm hb)) (hA _ (Same.refl _))⟩⟩⟩⟩
      · refine all_b hy ⟨_, rfl, ?_⟩
        rw [e1]
        cases e2 : someOf xs os with
        | true =>
          refine iteT ⟨_, rfl, .ref a, xs, rfl, ⟨a, rfl, hs'.imp (fun z => sm.seq z) fun z => same_t sm z⟩, hl, fun H3 s3 => ?_⟩
          have q := k _ (sm.trans s3)
          rw [e2] at q
          exact q
        | false =>
          have q := k _ sm
          rw [e2] at q
          exact iteF q
end
end VF
set_option maxHeartbeats 4000000
/-! ## E. options, ballots, rows as data; == and != of data -/
namespace VF
open PySem L2

mutual
/-- data of None, ints, texts, tuples, lists: no truths, no dicts -/
def good : PyData → Bool
  | .none => true
  | .bool _ => false
  | .int _ => true
  | .str x => PyData.strOk x
  | .list xs => goods xs
  | .tuple xs => goods xs
  | .dict _ => false
def goods : List PyData → Bool
  | [] => true
  | x :: r => good x && goods r
end
theorem goods_all : ∀ ds : List PyData, goods ds = ds.all good
  | [] => rfl
  | d :: r => by rw [goods, goods_all r, List.all_cons]
mutual
theorem good_lay : ∀ d : PyData, good d = true → d.canLay0 = true
  | .none, _ => rfl
  | .bool _, _ => rfl
  | .int _, _ => rfl
  | .str x, h => by simpa [good, PyData.canLay0] using h
  | .list xs, h => by simpa [PyData.canLay0] using goods_lay xs (by simpa [good] using h)
  | .tuple xs, h => by simpa [PyData.canLay0] using goods_lay xs (by simpa [good] using h)
  | .dict _, h => by simp [good] at h
theorem goods_lay : ∀ ds : List PyData, goods ds = true → PyData.canLayAll0 ds = true
  | [], _ => rfl
  | d :: r, h => by
    have h' : good d = true ∧ goods r = true := by simpa [goods] using h
    simp [PyData.canLayAll0, good_lay d h'.1, goods_lay r h'.2]
end
mutual
theorem eqv_iff : ∀ d e : PyData, good d = true → good e = true → (PyData.eqv d e = true ↔ d = e)
  | .none, .none, _, _ => by simp [PyData.eqv]
  | .none, .int _, _, _ => by simp [PyData.eqv]
  | .none, .str _, _, _ => by simp [PyData.eqv]
  | .none, .list _, _, _ => by simp [PyData.eqv]
  | .none, .tuple _, _, _ => by simp [PyData.eqv]
  | .int _, .none, _, _ => by simp [PyData.eqv]
  | .int i, .int j, _, _ => by simp [PyData.eqv]
  | .int _, .str _, _, _ => by simp [PyData.eqv]
  | .int _, .list _, _, _ => by simp [PyData.eqv]
  | .int _, .tuple _, _, _ => by simp [PyData.eqv]
  | .str _, .none, _, _ => by simp [PyData.eqv]
  | .str _, .int _, _, _ => by simp [PyData.eqv]
  | .str x, .str y, _, _ => by simp [PyData.eqv]
  | .str _, .list _, _, _ => by simp [PyData.eqv]
  | .str _, .tuple _, _, _ => by simp [PyData.eqv]
  | .list _, .none, _, _ => by simp [PyData.eqv]
  | .list _, .int _, _, _ => by simp [PyData.eqv]
  | .list _, .str _, _, _ => by simp [PyData.eqv]
  | .list xs, .list ys, h, h' => by
    have q := eqvs_iff xs ys (by simpa [good] using h) (by simpa [good] using h')
    simp only [PyData.eqv, q, PyData.list.injEq]
  | .list _, .tuple _, _, _ => by simp [PyData.eqv]
  | .tuple _, .none, _, _ => by simp [PyData.eqv]
  | .tuple _, .int _, _, _ => by simp [PyData.eqv]
  | .tuple _, .str _, _, _ => by simp [PyData.eqv]
  | .tuple _, .list _, _, _ => by simp [PyData.eqv]
  | .tuple xs, .tuple ys, h, h' => by
    have q := eqvs_iff xs ys (by simpa [good] using h) (by simpa [good] using h')
    simp only [PyData.eqv, q, PyData.tuple.injEq]
  | .bool _, _, h, _ => by simp [good] at h
  | .dict _, _, h, _ => by simp [good] at h
  | _, .bool _, _, h => by simp [good] at h
  | _, .dict _, _, h => by simp [good] at h
theorem eqvs_iff : ∀ ds es : List PyData, goods ds = true → goods es = true → (PyData.eqvAll ds es = true ↔ ds = es)
  | [], [], _, _ => by simp [PyData.eqvAll]
  | [], _ :: _, _, _ => by simp [PyData.eqvAll]
  | _ :: _, [], _, _ => by simp [PyData.eqvAll]
  | d :: r, e :: t, h, h' => by
    have h1 : good d = true ∧ goods r = true := by simpa [goods] using h
    have h2 : good e = true ∧ goods t = true := by simpa [goods] using h'
    have q1 := eqv_iff d e h1.1 h2.1
    have q2 := eqvs_iff r t h1.2 h2.2
    simp only [PyData.eqvAll, Bool.and_eq_true, q1, q2, List.cons.injEq]
end
mutual
theorem good_real : ∀ d : PyData, good (real d) = good d
  | .none => rfl
  | .bool _ => rfl
  | .int _ => rfl
  | .str _ => rfl
  | .list xs => by rw [real, good, good, goods_real xs]
  | .tuple xs => by rw [real, good, good, goods_real xs]
  | .dict _ => rfl
theorem goods_real : ∀ ds : List PyData, goods (reals ds) = goods ds
  | [] => rfl
  | d :: r => by rw [reals, goods, goods, good_real d, goods_real r]
end
mutual
theorem depth_real : ∀ d : PyData, (real d).depth = d.depth
  | .none => rfl
  | .bool _ => rfl
  | .int _ => rfl
  | .str _ => rfl
  | .list xs => by rw [real, PyData.depth, PyData.depth, depths_real xs]
  | .tuple xs => by rw [real, PyData.depth, PyData.depth, depths_real xs]
  | .dict _ => rfl
theorem depths_real : ∀ ds : List PyData, PyData.depthAll (reals ds) = PyData.depthAll ds
  | [] => rfl
  | d :: r => by rw [reals, PyData.depthAll, PyData.depthAll, depth_real d, depths_real r]
end
/-- good, and of at most eight storeys -/
def fit (d : PyData) : Bool := good d && decide (d.depth ≤ 8)
theorem fit_good {d : PyData} (h : fit d = true) : good d = true := (Bool.and_eq_true_iff.mp h).1
theorem fit_depth {d : PyData} (h : fit d = true) : d.depth ≤ 8 := of_decide_eq_true (Bool.and_eq_true_iff.mp h).2
theorem fit_real {d : PyData} (h : fit d = true) : fit (real d) = true := by
  unfold fit at h ⊢
  rw [good_real, depth_real]
  exact h
theorem fit_shaped {d : PyData} (h : fit d = true) : SeqAt.shaped d = true := by
  unfold SeqAt.shaped
  rw [good_lay d (fit_good h), decide_eq_true (Nat.le_trans (fit_depth h) (by decide))]
  rfl

structure EqR (K : PySem.W.Frag) (x y : V) (H : Hp) (Q : VK) : Prop where
  h : rEqD K x y H Q
structure NeR (K : PySem.W.Frag) (x y : V) (H : Hp) (Q : VK) : Prop where
  h : rNeD K x y H Q
theorem o_eq {X : Cx} {K : PySem.W.Frag} {k : Nat} (hr : Room k X.A) (hK : X.K = K := by rfl) : OpR X (compareOp .Eq) (EqR K) := by
  subst hK
  exact fun pins s σ H x y v u Q I rx ry h => op_eqD hr.units pins s σ H x y v u Q I rx ry h.h
theorem o_ne {X : Cx} {K : PySem.W.Frag} {k : Nat} (hr : Room k X.A) (hK : X.K = K := by rfl) : OpR X (compareOp .NotEq) (NeR K) := by
  subst hK
  exact fun pins s σ H x y v u Q I rx ry h => op_neD hr.units pins s σ H x y v u Q I rx ry h.h
section
variable {K : PySem.W.Frag} {H : Hp} {x y : V} {d e : PyData} {Q : VK}
theorem eq_p (hx : Dp K H x d) (hy : Dp K H y e) (fd : fit d = true) (fe : fit e = true) (q1 : d = e → Q (.bl true) H) (q2 : d ≠ e → Q (.bl false) H) : EqR K x y H Q := by
  refine ⟨d, e, hx, hy, fit_shaped fd, fit_shaped fe, ?_⟩
  have i := eqv_iff d e (fit_good fd) (fit_good fe)
  cases h : PyData.eqv d e with
  | true => exact q1 (i.mp h)
  | false => exact q2 fun z => by rw [i.mpr z] at h; cases h
theorem ne_p (hx : Dp K H x d) (hy : Dp K H y e) (fd : fit d = true) (fe : fit e = true) (q1 : d = e → Q (.bl false) H) (q2 : d ≠ e → Q (.bl true) H) : NeR K x y H Q := by
  refine ⟨d, e, hx, hy, fit_shaped fd, fit_shaped fe, ?_⟩
  have i := eqv_iff d e (fit_good fd) (fit_good fe)
  cases h : PyData.eqv d e with
  | true => exact q1 (i.mp h)
  | false => exact q2 fun z => by rw [i.mpr z] at h; cases h
theorem eq_d (hx : Dt K H x d) (hy : Dt K H y e) (fd : fit d = true) (fe : fit e = true) (q1 : real d = real e → Q (.bl true) H) (q2 : real d ≠ real e → Q (.bl false) H) : EqR K x y H Q := eq_p hx.dp hy.dp (fit_real fd) (fit_real fe) q1 q2
theorem ne_d (hx : Dt K H x d) (hy : Dt K H y e) (fd : fit d = true) (fe : fit e = true) (q1 : real d = real e → Q (.bl false) H) (q2 : real d ≠ real e → Q (.bl true) H) : NeR K x y H Q := ne_p hx.dp hy.dp (fit_real fd) (fit_real fe) q1 q2
end

/-! ### the forms -/
def dN (xs : List Str) : PyData := .tuple (xs.map PyData.str)
def dT (ts : List (List Str)) : PyData := .tuple (ts.map dN)
def dP (p : Str × Int) : PyData := .tuple [.str p.1, .int p.2]
/-- the pairs of a ballot of marks: a plain tuple -/
def dM (ps : List (Str × Int)) : PyData := .list (ps.map dP)
inductive Bal where
  | ord (ts : List (List Str))
  | lets (ns : List Str)
  | marks (ps : List (Str × Int))
def Bal.word : Bal → Str
  | .ord _ => "order"
  | .lets _ => "lets"
  | .marks _ => "marks"
def Bal.body : Bal → PyData
  | .ord ts => dT ts
  | .lets ns => dN ns
  | .marks ps => dM ps
def dB (b : Bal) : PyData := .tuple [.str b.word, b.body]
def dR (r : Bal × Int) : PyData := .tuple [dB r.1, .int r.2]
def dV (rs : List (Bal × Int)) : PyData := .tuple (rs.map dR)

/-- names of the options -/
structure OkO (os : List Str) : Prop where
  least : 1 ≤ os.length
  most : os.length ≤ 6
  name : ∀ x ∈ os, isNameS x = true
  unl : unlike os = true
/-- names of a ballot: of the options, unlike -/
structure OkN (os xs : List Str) : Prop where
  some : someOf xs os = true
  unl : unlike xs = true
  most : xs.length ≤ 100
inductive OkB (os : List Str) : Bal → Prop
  | ord {ts : List (List Str)} (h : OkN os ts.flatten) (ne : ∀ t ∈ ts, t ≠ []) (m : ts.length ≤ 100) : OkB os (.ord ts)
  | lets {ns : List Str} (h : OkN os ns) : OkB os (.lets ns)
  | marks {ps : List (Str × Int)} (h : OkN os (ps.map (·.1))) (m : ∀ p ∈ ps, 0 ≤ p.2 ∧ p.2 ≤ 9) : OkB os (.marks ps)
structure OkR (os : List Str) (r : Bal × Int) : Prop where
  bal : OkB os r.1
  lo : 1 ≤ r.2
  hi : r.2 ≤ 1000000
theorem strOk_name {x : Str} (h : isNameS x = true) : PyData.strOk x = true := by
  have h1 : x.cps.toList.all isLetter = true := by
    simp only [isNameS, Bool.and_eq_true] at h
    exact h.2
  unfold PyData.strOk
  rw [← Array.all_toList, List.all_eq_true]
  rw [List.all_eq_true] at h1
  intro c hc
  have q := of_decide_eq_true (h1 c hc)
  have all : alph.cps.toList.all (fun c => decide (c < 0x110000)) = true := by decide +kernel
  rw [List.all_eq_true] at all
  exact all c q
theorem someOf_mem {xs os : List Str} (h : someOf xs os = true) : ∀ x ∈ xs, x ∈ os := fun x hx => of_decide_eq_true (List.all_eq_true.mp h x hx)
theorem depthAll_le {n : Nat} : ∀ {ds : List PyData}, (∀ d ∈ ds, d.depth ≤ n) → PyData.depthAll ds ≤ n
  | [], _ => Nat.zero_le _
  | d :: r, h => by
    simp only [PyData.depthAll]
    exact Nat.max_le.mpr ⟨h d (List.mem_cons_self ..), depthAll_le fun e he => h e (List.mem_cons_of_mem _ he)⟩
/-- good, of at most n storeys -/
def Gd (n : Nat) (d : PyData) : Prop := good d = true ∧ d.depth ≤ n
theorem Gd.fit {n : Nat} {d : PyData} (h : Gd n d) (hn : n ≤ 8) : fit d = true := by
  unfold VF.fit
  rw [h.1, decide_eq_true (Nat.le_trans h.2 hn)]
  rfl
theorem Gd.mono {n m : Nat} {d : PyData} (h : Gd n d) (hn : n ≤ m) : Gd m d := ⟨h.1, Nat.le_trans h.2 hn⟩
theorem gd_tup {n : Nat} {ds : List PyData} (h : ∀ d ∈ ds, Gd n d) : Gd (n + 1) (.tuple ds) := by
  refine ⟨?_, ?_⟩
  · rw [good, goods_all, List.all_eq_true]
    exact fun d hd => (h d hd).1
  · simp only [PyData.depth]
    exact Nat.succ_le_succ (depthAll_le fun d hd => (h d hd).2)
theorem gd_lst {n : Nat} {ds : List PyData} (h : ∀ d ∈ ds, Gd n d) : Gd (n + 1) (.list ds) := by
  refine ⟨?_, ?_⟩
  · rw [good, goods_all, List.all_eq_true]
    exact fun d hd => (h d hd).1
  · simp only [PyData.depth]
    exact Nat.succ_le_succ (depthAll_le fun d hd => (h d hd).2)
theorem gd_int (i : Int) : Gd 0 (.int i) := ⟨rfl, Nat.le_refl _⟩
theorem gd_str {x : Str} (h : PyData.strOk x = true) : Gd 0 (.str x) := ⟨by simpa [good] using h, Nat.le_refl _⟩
theorem gd_map {α : Type} {n : Nat} {f : α → PyData} {l : List α} (h : ∀ x ∈ l, Gd n (f x)) : Gd (n + 1) (.tuple (l.map f)) := gd_tup fun d hd => by
  obtain ⟨x, hx, rfl⟩ := List.mem_map.mp hd
  exact h x hx
theorem gd_dN {xs : List Str} (h : ∀ x ∈ xs, PyData.strOk x = true) : Gd 1 (dN xs) := gd_map fun x hx => gd_str (h x hx)
theorem gd_dT {ts : List (List Str)} (h : ∀ t ∈ ts, ∀ x ∈ t, PyData.strOk x = true) : Gd 2 (dT ts) := gd_map fun t ht => gd_dN (h t ht)
theorem gd_dM {ps : List (Str × Int)} (h : ∀ p ∈ ps, PyData.strOk p.1 = true) : Gd 2 (dM ps) := gd_lst fun d hd => by
  obtain ⟨p, hp, rfl⟩ := List.mem_map.mp hd
  refine gd_tup fun d hd => ?_
  rcases List.mem_cons.mp hd with rfl | hd
  · exact gd_str (h p hp)
  · rcases List.mem_cons.mp hd with rfl | hd
    · exact gd_int _
    · cases hd
theorem gd_pair {n : Nat} {d e : PyData} (h : Gd n d) (h' : Gd n e) : Gd (n + 1) (.tuple [d, e]) := gd_tup fun c hc => by
  rcases List.mem_cons.mp hc with rfl | hc
  · exact h
  · rcases List.mem_cons.mp hc with rfl | hc
    · exact h'
    · cases hc
section
variable {os : List Str}
theorem OkO.sok (o : OkO os) : ∀ x ∈ os, PyData.strOk x = true := fun x hx => strOk_name (o.name x hx)
theorem OkO.gd (o : OkO os) : Gd 1 (dN os) := gd_dN o.sok
theorem OkN.sok {xs : List Str} (o : OkO os) (h : OkN os xs) : ∀ x ∈ xs, PyData.strOk x = true := fun x hx => o.sok x (someOf_mem h.some x hx)
theorem OkB.gd {b : Bal} (o : OkO os) (h : OkB os b) : Gd 3 (dB b) := by
  cases h with
  | ord h ne m => exact gd_pair (Gd.mono (gd_str (show PyData.strOk ("order" : Str) = true by decide +kernel)) (by decide)) (gd_dT fun t ht x hx => h.sok o x (List.mem_flatten.mpr ⟨t, ht, hx⟩))
  | lets h => exact gd_pair (Gd.mono (gd_str (show PyData.strOk ("lets" : Str) = true by decide +kernel)) (by decide)) (Gd.mono (gd_dN (h.sok o)) (by decide))
  | marks h m => exact gd_pair (Gd.mono (gd_str (show PyData.strOk ("marks" : Str) = true by decide +kernel)) (by decide)) (gd_dM fun p hp => h.sok o _ (List.mem_map_of_mem hp))
theorem OkR.gd {r : Bal × Int} (o : OkO os) (h : OkR os r) : Gd 4 (dR r) := gd_pair (h.bal.gd o) (Gd.mono (gd_int _) (by decide))
theorem gd_dV {rs : List (Bal × Int)} (o : OkO os) (h : ∀ r ∈ rs, OkR os r) : Gd 5 (dV rs) := gd_map fun r hr => (h r hr).gd o
end
end VF
set_option maxHeartbeats 4000000
/-! ## G. ballots looked at: are_tiers, are_marks, is_ballot -/
namespace VF
open PySem L2
abbrev s13 : Stmt := top 13
abbrev s14 : Stmt := top 14
abbrev s15 : Stmt := top 15
def spTiersOk (K : PySem.W.Frag) : Sp := fun vs H Q _ => ∃ v o ts os, vs = [v, o] ∧ Dt K H v (dT ts) ∧ Dt K H o (dN os) ∧ OkO os ∧ OkB os (.ord ts) ∧ ∀ H', Same H H' → Q (.bl true) H'
def spMarksOk (K : PySem.W.Frag) : Sp := fun vs H Q _ => ∃ v o ps os, vs = [v, o] ∧ Dt K H v (dM ps) ∧ Dt K H o (dN os) ∧ OkO os ∧ OkB os (.marks ps) ∧ ∀ H', Same H H' → Q (.bl true) H'
def spBallotOk (K : PySem.W.Frag) : Sp := fun vs H Q _ => ∃ o v b os, vs = [o, v] ∧ Dt K H v (dB b) ∧ Dt K H o (dN os) ∧ OkO os ∧ OkB os b ∧ ∀ H', Same H H' → Q (.bl true) H'
theorem flat_take {α : Type} {ts : List (List α)} {i : Nat} {t : List α} (h : ts[i]? = some t) : (ts.take (i + 1)).flatten = (ts.take i).flatten ++ t := by
  obtain ⟨hi, e⟩ := List.getElem?_eq_some_iff.mp h
  rw [List.take_succ_eq_append_getElem hi, List.flatten_append, e]
  simp
theorem flat_le {α : Type} (ts : List (List α)) (i : Nat) : ((ts.take i).flatten).length ≤ ts.flatten.length := by
  have e : ts.flatten = (ts.take i).flatten ++ (ts.drop i).flatten := by rw [← List.flatten_append, List.take_append_drop]
  rw [e, List.length_append]
  omega
section
variable {J J1 : It} {n n1 : Nat} {G G1 : Hp → Prop} {Y Y1 : Nat → Hp → V → Hp → Prop}
/-- the outer walk of [.. for .. for ..] -/
theorem lc2_out (w : Walk J n G Y) {R : V → Hp → (Hp → Prop) → Prop} {H0 : Hp} {Qd : Hp → Prop} (Pv : Nat → Hp → Prop) (h0 : Pv 0 H0) (hG : ∀ i H, i ≤ n → Pv i H → G H)
    (hs : ∀ i x H H', i < n → Pv i H → Y i H x H' → R x H' (Pv (i + 1))) (hd : ∀ H, Pv n H → Qd H) :
    ∃ W : Nat → Nat → Hp → Prop, (∃ m, W 0 m H0) ∧ ∀ i m H, W i m H → (J.stop i H ∧ Qd H) ∨ (J.go i H ∧ ∃ Nx : Hp → Prop, (∀ H', Nx H' → ∃ m', m' < m ∧ W (i + 1) m' H') ∧ ∀ x H', J.yld i H x H' → R x H' Nx) := by
  refine ⟨fun i m H => m = n - i ∧ i ≤ n ∧ Pv i H, ⟨n, by simp, Nat.zero_le _, h0⟩, ?_⟩
  rintro i m H ⟨rfl, hi, p⟩
  have q := hG i H hi p
  by_cases hlt : i < n
  · exact .inr ⟨w.goes i H hlt q, Pv (i + 1), fun H' p' => ⟨n - (i + 1), by omega, rfl, hlt, p'⟩, fun x H' y => hs i x H H' hlt p (w.yields i H x H' hlt q y)⟩
  · obtain rfl : i = n := by omega
    exact .inl ⟨w.stops H q, hd H p⟩
end
theorem ifD {p A B : Prop} [Decidable p] (h : p) (q : A) : if decide p = true then A else B := by
  rw [if_pos (decide_eq_true h)]
  exact q
theorem pair_inv {K : PySem.W.Frag} {H : Hp} {v : V} {x : Str} {i : Int} (h : Dt K H v (.tuple [.str x, .int i])) : ∃ b, v = .ref b ∧ SqT K H b [.str x, .int i] := by
  obtain ⟨b, ys, e, hb, hd⟩ := h.tup_inv
  cases hd with
  | cons h1 t =>
    cases t with
    | cons h2 t =>
      cases t
      cases h1
      cases h2
      exact ⟨b, e, hb⟩
theorem ball_inv {K : PySem.W.Frag} {H : Hp} {v : V} {b : Bal} (h : Dt K H v (dB b)) : ∃ a x, v = .ref a ∧ SqT K H a [.str b.word, x] ∧ Dt K H x b.body := by
  obtain ⟨a, ys, e, ha, hd⟩ := h.tup_inv
  cases hd with
  | cons h1 t =>
    cases t with
    | cons h2 t =>
      cases t
      cases h1
      exact ⟨a, _, e, ha, h2⟩
section
variable {P : Program} {w : World} {K : PySem.W.Frag} {mg : Str → Option Value} {base : Heap}
theorem sc13 : FnScope ["thing", "options", "tier", "name"] ["thing", "options"] (defScope s13) := ⟨rfl, rfl, rfl, by decide +kernel, rfl, by decide +kernel, by decide +kernel⟩
theorem ok_tiersOk {f : Addr} {fd : FuncData} (F : Fun K "are_tiers" "are_tiers" s13 f fd) (B : Bt mg) (U : C8.Cal P w K mg base 2 "are_some_of" (spSome K) []) : FnOk P w K mg base CX0 3 f fd ["thing", "options"] (spTiersOk K) := by
  refine F.ok sc13 (fun vs H Q E h => ?_) (fun cdv A outer s H vs Q E hr h => ?_)
  · obtain ⟨v, o, ts, os, rfl, _⟩ := h
    rfl
  · obtain ⟨v, o, ts, os, rfl, hv, ho, oo, ob, k⟩ := h
    cases ob with
    | ord hN ne hm =>
    have hv0 := hv
    obtain ⟨a, xs, rfl, ha, hd⟩ := hv.tup_inv
    have hlen := hd.length
    rw [List.length_map] at hlen
    refine ⟨_, pss_cons (ps_if (PW.pt (pw_or (pt_not (pt_val (e_isi (K := K) B.isi (pv 0) (e_ty "tuple" B.tyTup)))) (pw_or1 (pt_not (pt_val (e_all (K := K) B.all rfl (pe_lc (own := [("tier", 2)]) rfl sc13.nd (i_tup (K := K) (pv 0)) (blkOk_by (N := ["thing", "options", "tier", "name"]) (sc := defScope s13) (by decide +kernel))
          (fun _ _ _ _ _ => pg_name (i := 2) sc13.nd rfl (Or.inl rfl)) (fun _ _ _ _ _ => pts_nil) (fun _ _ _ _ _ => pe_and (e_isi (K := K) B.isi (pv 2) (e_ty "tuple" B.tyTup)) (pe_one (pe_cmpR (o_ne (K := K) hr) (pv 2) (pe_tup pa_nil) (nomark _)))))))))))
        (pss_one (ps_ret pe_bl)) pss_nil)
      (pss_one (ps_ret (C8.pe_c U hr (by decide) (by rfl) (pa_cons (pe_lc2 (own := [("tier", 2), ("name", 3)]) (vs1 := [3]) rfl sc13.nd (i_tup (K := K) (pv 0)) (blkOk_by (N := ["thing", "options", "tier", "name"]) (sc := defScope s13) (by decide +kernel)) (by decide)
        (fun _ _ _ _ _ => pg_name (i := 2) sc13.nd rfl (Or.inl rfl)) (fun _ _ _ _ _ => pts_nil) (fun _ _ _ _ _ => i_tup (K := K) (pv 2)) (fun _ _ _ _ _ => pg_name (i := 3) sc13.nd rfl (Or.inl rfl)) (fun _ _ _ _ _ => pts_nil) (fun _ _ _ _ _ => pv 3)) (pa_cons (pv 1) pa_nil))))), ?_⟩
    refine ⟨_, rfl, isi_isTup hv0 ⟨_, rfl, iteF ?_⟩⟩
    refine ⟨_, rfl, a, rfl, ⟨_, ha⟩, fun D hD => lc_b ts (fun _ => true) (hlen ▸ walk_tup (K := K) (a := a) (xs := xs)) hD (Nat.lt_of_le_of_lt hm (by decide)) (fun H1 sm => same_t sm ha) ?_ fun H1 sm hy => all_b hy ?_⟩
    · rintro i t x H1 H2 ht sm ⟨rfl, hx⟩
      obtain ⟨d, hd1, hd2⟩ := hd.get hx
      rw [List.getElem?_map, ht] at hd1
      cases hd1
      have ht2 : t ∈ ts := List.mem_of_getElem? ht
      have sok : ∀ x ∈ t, PyData.strOk x = true := fun y hy => hN.sok oo y (List.mem_flatten.mpr ⟨t, ht2, hy⟩)
      refine ⟨Same.refl _, fun A hA => ⟨rfl, _, rfl, isi_isTup (hd2.same sm) ⟨_, rfl, iteT ⟨_, rfl, Nat.zero_le _, fun p hp => ?_⟩⟩⟩⟩
      have s2 : Same H2 (upd H2 p (.tup [])) := L2.Same.put hp
      refine ne_d ((hd2.same sm).same s2) (.new upd_same .nil) ((gd_dN sok).fit (by decide)) ((gd_tup (n := 0) (ds := []) fun _ h => nomatch h).fit (by decide)) (fun z => ?_) fun _ => hA _ s2
      cases t with
      | nil => exact absurd rfl (ne _ ht2)
      | cons y r => cases z
    · refine ⟨_, rfl, ?_⟩
      have e1 : (ts.map fun _ => true).all id = true := by simp [List.all_eq_true]
      rw [e1]
      refine iteF ⟨_, rfl, a, rfl, ⟨_, same_t sm ha⟩, fun D2 hD2 => ?_⟩
      refine lc2_out (G := fun H => SqT K H a xs) (Y := YAt xs) (n := ts.length) (by rw [← hlen]; exact walk_tup) (fun i Hz => Same H1 Hz ∧ Hz D2 = some (.lst (((ts.take i).flatten).map V.str))) ⟨L2.Same.put hD2, upd_same⟩ (fun i Hz _ h => same_t (sm.trans h.1) ha) ?_ ?_
      · rintro i x Hz Hz' hi ⟨sz, hz⟩ ⟨rfl, hx⟩
        obtain ⟨d, hd1, hd2⟩ := hd.get hx
        rw [List.getElem?_map] at hd1
        obtain ⟨t, ht, rfl⟩ : ∃ t, ts[i]? = some t ∧ d = dN t := by
          cases e : ts[i]? with
          | none =>
            rw [e] at hd1
            cases hd1
          | some t =>
            rw [e] at hd1
            cases hd1
            exact ⟨t, rfl, rfl⟩
        obtain ⟨b, rfl, hb⟩ := hd2.names_inv
        have hb0 := same_t (sm.trans sz) hb
        refine ⟨rfl, _, rfl, b, rfl, ⟨_, hb0⟩, ?_⟩
        refine lc2_out (G := fun H => SqT K H b (t.map V.str)) (Y := YAt (t.map V.str)) (n := t.length) (by simpa using walk_tup (K := K) (a := b) (xs := t.map V.str)) (fun j Hy => Same H1 Hy ∧ Hy D2 = some (.lst (((ts.take i).flatten ++ t.take j).map V.str))) ⟨sz, by simpa using hz⟩ (fun j Hy _ h => same_t (sm.trans h.1) hb) ?_ ?_
        · rintro j y Hy Hy' hj ⟨sy, hy⟩ ⟨rfl, hyx⟩
          rw [List.getElem?_map, List.getElem?_eq_getElem hj] at hyx
          cases hyx
          refine ⟨rfl, _, rfl, _, hy, ?_, sy.over hD2, ?_⟩
          · rw [List.length_map, List.length_append]
            have l1 : ((ts.take i).flatten ++ t).length ≤ ts.flatten.length := by
              rw [← flat_take ht]
              exact flat_le ts (i + 1)
            rw [List.length_append] at l1
            have l2 := hN.most
            have l3 : (t.take j).length ≤ t.length := by rw [List.length_take]; omega
            exact Nat.lt_of_le_of_lt (show _ ≤ 100 by omega) (by decide)
          · rw [upd_same, List.take_succ_eq_append_getElem hj, ← List.append_assoc, List.map_append (l₂ := [t[j]])]
            rfl
        · rintro Hy ⟨sy, hy⟩
          refine ⟨sy, ?_⟩
          rw [hy, flat_take ht, List.take_length]
      · rintro Hz ⟨sz, hz⟩
        rw [List.take_length] at hz
        refine ⟨_, rfl, .ref D2, o, ts.flatten, os, rfl, ⟨D2, rfl, .inl (SqL.of hz)⟩, ho.same (sm.trans sz), Nat.le_trans hN.most (by decide), fun H' s' => ?_⟩
        rw [hN.some, hN.unl]
        exact k H' ((sm.trans sz).trans s')
theorem sc14 : FnScope ["thing", "options", "pair", "name", "mark"] ["thing", "options"] (defScope s14) := ⟨rfl, rfl, rfl, by decide +kernel, rfl, by decide +kernel, by decide +kernel⟩
theorem ok_marksOk {f : Addr} {fd : FuncData} (F : Fun K "are_marks" "are_marks" s14 f fd) (B : Bt mg) (C : Cn mg) (U : C8.Cal P w K mg base 2 "are_some_of" (spSome K) []) (Uw : C8.Cal P w K mg base 1 "is_whole" spWhole []) : FnOk P w K mg base CX0 3 f fd ["thing", "options"] (spMarksOk K) := by
  refine F.ok sc14 (fun vs H Q E h => ?_) (fun cdv A outer s H vs Q E hr h => ?_)
  · obtain ⟨v, o, ts, os, rfl, _⟩ := h
    rfl
  · obtain ⟨v, o, ps, os, rfl, hv, ho, oo, ob, k⟩ := h
    cases ob with
    | marks hN hm =>
    have hv0 := hv
    obtain ⟨a, _, xs, rfl, _, _, ha, hd⟩ := hv.plain_inv
    have hlen := hd.length
    rw [List.length_map] at hlen
    have hps : ps.length ≤ 100 := by
      have q := hN.most
      rwa [List.length_map] at q
    have hsz : ps.length < sizeLine := Nat.lt_of_le_of_lt hps (by decide)
    refine ⟨_, pss_cons (ps_if (PW.pt (pw_or (pt_not (pt_val (e_isi (K := K) B.isi (pv 0) (e_ty "tuple" B.tyTup)))) (pw_or1 (pt_not (pt_val (e_all (K := K) B.all rfl (pe_lc (own := [("pair", 2)]) rfl sc14.nd (i_tup (K := K) (pv 0)) (blkOk_by (N := ["thing", "options", "pair", "name", "mark"]) (sc := defScope s14) (by decide +kernel))
          (fun _ _ _ _ _ => pg_name (i := 2) sc14.nd rfl (Or.inl rfl)) (fun _ _ _ _ _ => pts_nil) (fun _ _ _ _ _ => pe_and (e_isi (K := K) B.isi (pv 2) (e_ty "tuple" B.tyTup)) (pe_one (pe_cmpR op_eq (e_len (K := K) B.len (pv 2)) pe_int (nomark _)))))))))))
        (pss_one (ps_ret pe_bl)) pss_nil)
      (pss_cons (ps_if (pt_not (pt_val (e_all (K := K) B.all rfl (pe_lc (own := [("name", 3), ("mark", 4)]) rfl sc14.nd (i_tup (K := K) (pv 0)) (blkOk_by (N := ["thing", "options", "pair", "name", "mark"]) (sc := defScope s14) (by decide +kernel))
          (fun _ _ _ _ _ => g_tup (K := K) (n := 2) rfl (by exact pgs_cons (pg_name (i := 3) sc14.nd rfl (Or.inl rfl)) (pgs_cons (pg_name (i := 4) sc14.nd rfl (Or.inl rfl)) pgs_nil))) (fun _ _ _ _ _ => pts_nil)
          (fun _ _ _ _ _ => pe_and (C8.pe_c Uw hr (by decide) (by rfl) (pa_cons (pv 4) pa_nil)) (pe_one (pe_chain op_le op_le pe_int (pv 4) (C8.pe_gc (by rfl) C.mostM))))))))
        (pss_one (ps_ret pe_bl)) pss_nil)
      (pss_one (ps_ret (C8.pe_c U hr (by decide) (by rfl) (pa_cons (pe_lc (own := [("name", 3), ("mark", 4)]) rfl sc14.nd (i_tup (K := K) (pv 0)) (blkOk_by (N := ["thing", "options", "pair", "name", "mark"]) (sc := defScope s14) (by decide +kernel))
          (fun _ _ _ _ _ => g_tup (K := K) (n := 2) rfl (by exact pgs_cons (pg_name (i := 3) sc14.nd rfl (Or.inl rfl)) (pgs_cons (pg_name (i := 4) sc14.nd rfl (Or.inl rfl)) pgs_nil))) (fun _ _ _ _ _ => pts_nil)
          (fun _ _ _ _ _ => pv 3)) (pa_cons (pv 1) pa_nil)))))), ?_⟩
    have item : ∀ {i : Nat} {x : V} {p : Str × Int}, ps[i]? = some p → xs[i]? = some x → ∃ b, x = .ref b ∧ SqT K H b [.str p.1, .int p.2] ∧ Dt K H x (dP p) := fun {i x p} hp hx => by
      obtain ⟨d, hd1, hd2⟩ := hd.get hx
      rw [List.getElem?_map, hp] at hd1
      cases hd1
      obtain ⟨b, e, h⟩ := pair_inv hd2
      exact ⟨b, e, h, hd2⟩
    have hw : Walk (Itt K a) ps.length (fun H => SqT K H a xs) (YAt xs) := hlen ▸ walk_tup (K := K) (a := a) (xs := xs)
    have e1 : (ps.map fun _ => true).all id = true := by simp [List.all_eq_true]
    refine ⟨_, rfl, isi_isPl hv0 ⟨_, rfl, iteF ?_⟩⟩
    refine ⟨_, rfl, a, rfl, ⟨_, ha⟩, fun D hD => lc_b ps (fun _ => true) hw hD hsz (fun H1 sm => same_t sm ha) ?_ fun H1 sm hy => all_b hy ⟨_, rfl, ?_⟩⟩
    · rintro i p x H1 H2 hp sm ⟨rfl, hx⟩
      obtain ⟨b, rfl, hb, hdb⟩ := item hp hx
      exact ⟨Same.refl _, fun A hA => ⟨rfl, _, rfl, isi_isTup (hdb.same sm) ⟨_, rfl, iteT ⟨_, rfl, b, _, rfl, .inr (same_t sm hb), rfl, hA _ (Same.refl _)⟩⟩⟩⟩
    rw [e1]
    refine iteF ⟨_, rfl, a, rfl, ⟨_, same_t sm ha⟩, fun D2 hD2 => lc_b ps (fun _ => true) hw hD2 hsz (fun H2 sm2 => same_t (sm.trans sm2) ha) ?_ fun H2 sm2 hy2 => all_b hy2 ⟨_, rfl, ?_⟩⟩
    · rintro i p x H2 H3 hp sm2 ⟨rfl, hx⟩
      obtain ⟨b, rfl, hb, hdb⟩ := item hp hx
      obtain ⟨m0, m9⟩ := hm p (List.mem_of_getElem? hp)
      refine ⟨Same.refl _, fun A hA => ⟨b, _, rfl, same_t (sm.trans sm2) hb, rfl, _, _, rfl, _, _, rfl, rfl, rfl, _, rfl, p.2, rfl, _, rfl, iteT ⟨_, rfl, _, _, rfl, rfl, _, rfl, ifD m0 ⟨_, _, rfl, rfl, ?_⟩⟩⟩⟩
      show A (.bl (decide (p.2 ≤ 9))) _
      rw [decide_eq_true m9]
      exact hA _ (Same.refl _)
    rw [e1]
    refine iteF ⟨_, rfl, a, rfl, ⟨_, same_t (sm.trans sm2) ha⟩, fun D3 hD3 => lc_m (K := K) ps (fun p => .str p.1) hw hD3 hsz (fun H3 sm3 => same_t ((sm.trans sm2).trans sm3) ha) ?_ fun H3 ys sm3 hy3 hd3 => ?_⟩
    · rintro i p x H2 H3 hp sm3 ⟨rfl, hx⟩
      obtain ⟨b, rfl, hb, hdb⟩ := item hp hx
      exact ⟨Same.refl _, fun A hA => ⟨b, _, rfl, same_t ((sm.trans sm2).trans sm3) hb, rfl, _, _, rfl, _, _, rfl, rfl, rfl, _, rfl, hA _ _ (Same.refl _) (.str _)⟩⟩
    · have e2 : (ps.map fun p => PyData.str p.1) = (ps.map (·.1)).map PyData.str := by simp
      rw [e2] at hd3
      rw [hd3.to_strs] at hy3
      have st := (sm.trans sm2).trans sm3
      refine ⟨_, rfl, .ref D3, o, ps.map (·.1), os, rfl, ⟨D3, rfl, .inl (SqL.of hy3)⟩, ho.same st, Nat.le_trans hN.most (by decide), fun H' s' => ?_⟩
      rw [hN.some, hN.unl]
      exact k H' (st.trans s')
theorem sc15 : FnScope ["options", "ballot", "word", "things"] ["options", "ballot"] (defScope s15) := ⟨rfl, rfl, rfl, by decide +kernel, rfl, by decide +kernel, by decide +kernel⟩
theorem ok_ballotOk {f : Addr} {fd : FuncData} (F : Fun K "is_ballot" "is_ballot" s15 f fd) (B : Bt mg) (U : C8.Cal P w K mg base 2 "are_some_of" (spSome K) []) (Ut : C8.Cal P w K mg base 3 "are_tiers" (spTiersOk K) []) (Um : C8.Cal P w K mg base 3 "are_marks" (spMarksOk K) []) : FnOk P w K mg base CX0 4 f fd ["options", "ballot"] (spBallotOk K) := by
  refine F.ok sc15 (fun vs H Q E h => ?_) (fun cdv A outer s H vs Q E hr h => ?_)
  · obtain ⟨o, v, b, os, rfl, _⟩ := h
    rfl
  · obtain ⟨o, v, b, os, rfl, hv, ho, oo, ob, k⟩ := h
    have hv0 := hv
    obtain ⟨a, x2, rfl, ha, h2⟩ := ball_inv hv
    refine ⟨_, pss_cons (ps_if (PW.pt (pw_or (pt_not (pt_val (e_isi (K := K) B.isi (pv 1) (e_ty "tuple" B.tyTup)))) (pw_or (pt_cmpR op_ne (e_len (K := K) B.len (pv 1)) pe_int (nomark _)) (pw_or1 (pt_not (pt_val (e_isi (K := K) B.isi (pe_ix ix_tup (pv 1) pe_int (fun _ _ => rfl)) (e_ty "str" B.tyStr))))))))
        (pss_one (ps_ret pe_bl)) pss_nil)
      (pss_cons (ps_asg (pv 1) (pg_tup (by rfl) (by exact pgs_cons (pg_name (i := 2) sc15.nd rfl (Or.inl rfl)) (pgs_cons (pg_name (i := 3) sc15.nd rfl (Or.inl rfl)) pgs_nil))))
      (pss_cons (ps_if (pt_cmpR op_eq (pv 2) pe_str (nomark _)) (pss_one (ps_ret (C8.pe_c Ut hr (by decide) (by rfl) (pa_cons (pv 3) (pa_cons (pv 0) pa_nil))))) pss_nil)
      (pss_cons (ps_if (pt_cmpR op_eq (pv 2) pe_str (nomark _)) (pss_one (ps_ret (pe_and (e_isi (K := K) B.isi (pv 3) (e_ty "tuple" B.tyTup)) (pe_one (C8.pe_c U hr (by decide) (by rfl) (pa_cons (pv 3) (pa_cons (pv 0) pa_nil))))))) pss_nil)
      (pss_one (ps_ret (pe_and (pe_cmpR op_eq (pv 2) pe_str (nomark _)) (pe_one (C8.pe_c Um hr (by decide) (by rfl) (pa_cons (pv 3) (pa_cons (pv 0) pa_nil)))))))))), ?_⟩
    refine ⟨_, rfl, isi_isTup hv0 ⟨_, rfl, iteF ?_⟩⟩
    refine ⟨_, rfl, a, _, rfl, .inr ha, rfl, _, rfl, iteF ?_⟩
    refine ⟨_, rfl, a, _, _, .str b.word, rfl, rfl, ha, rfl, isi_isStr ⟨_, rfl, iteF ?_⟩⟩
    refine ⟨_, rfl, a, _, rfl, ha, rfl, _, _, rfl, _, _, rfl, rfl, ?_⟩
    refine ⟨_, rfl, rfl, _, rfl, ?_⟩
    cases b with
    | ord ts => exact iteT ⟨_, rfl, _, rfl, x2, o, ts, os, rfl, h2, ho, oo, ob, k⟩
    | lets ns =>
      refine iteF ⟨_, rfl, rfl, _, rfl, iteT ⟨_, rfl, isi_isTup h2 ⟨_, rfl, iteT ?_⟩⟩⟩
      cases ob with
      | lets hN =>
        obtain ⟨c, rfl, hc⟩ := h2.names_inv
        refine ⟨_, rfl, _, rfl, .ref c, o, ns, os, rfl, ⟨c, rfl, .inr hc⟩, ho, Nat.le_trans hN.most (by decide), fun H' s' => ?_⟩
        rw [hN.some, hN.unl]
        exact k H' s'
    | marks ps => exact iteF ⟨_, rfl, rfl, _, rfl, iteF ⟨_, rfl, rfl, _, rfl, iteT ⟨_, rfl, _, rfl, x2, o, ps, os, rfl, h2, ho, oo, ob, k⟩⟩⟩
end
end VF
set_option maxHeartbeats 4000000
/-! ## I. sets of ints: {elt for ..}, set(list) -/
namespace VF
open PySem L2 PySem.Spec PyProof.Rows
abbrev emptySet (w : World) : Obj := { cls := .type "set", dict := none, data := .set #[] 0 (.fresh 0 0 (!w.params.followText "set-order")) }
section
variable {X : Cx}
/-- set.add of an int -/
theorem addI {pins : List (Addr × Obj)} {σ : L2.St} {H : Hp} {s : Shared} {E : Value → Shared → Prop} {D : Addr} {S : Int → Bool} {n : Nat} {y : Int} {u : Value} {Q : Value → Shared → Prop} (I : Inv X pins σ H s) (hD : H D = some (SetO X.w D S n)) (ru : RelV (.int y) u) (room : n + 1 < scanBound)
    (h : ∀ s', Inv X pins σ (upd H D (SetO X.w D (fun j => S j || decide (j = y)) (if S y = true then n else n + 1))) s' → Q .none s') : wpAny (model X.prog X.w) X.A (call (.builtin "set.add") [.ref D, u]) Q E s := by
  obtain ⟨tk, rfl⟩ := ru
  refine setR_add (setO_get I hD) room fun h' same now => ?_
  have there : ∃ q, h'.get? D = some q := by
    have ⟨o, _, _, _, ho, _⟩ := now
    exact ⟨o, ho⟩
  exact h _ (I.write (e := D) (t' := s.toks + 1) (by rw [hD]; trivial) (.inl rfl) (fun b q hb hq => (same.2 b hb).trans hq) there (setO_new now))
/-- {elt for target in iter if ..}, elt an int: the new set stands at D -/
def tScI (w : World) (wi : TI) (g : TG) (tt : TT) (te : TE) (vs : List Nat) : TE := fun σ H Q => wi σ H fun J H1 => ∀ D, H1 D = none → ∃ W : Nat → Nat → Hp → Prop, (∃ m, W 0 m (upd H1 D (SetO w D (fun _ => false) 0))) ∧ ∀ i m H, W i m H →
  (J.stop i H ∧ Q (.ref D) H) ∨ (J.go i H ∧ ∃ Nx : Hp → Prop, (∀ H', Nx H' → ∃ m', m' < m ∧ W (i + 1) m' H') ∧ ∀ x H', J.yld i H x H' → g x (wipe σ vs) H' fun σ2 H2 => wipe σ2 vs = wipe σ vs ∧ tt σ2 H2 fun b H3 =>
    if b = true then te σ2 H3 fun y H4 => ∃ (c : Int) (S : Int → Bool) (n : Nat), y = .int c ∧ H4 D = some (SetO w D S n) ∧ n + 1 < scanBound ∧ Nx (upd H4 D (SetO w D (fun j => S j || decide (j = c)) (if S c = true then n else n + 1))) else Nx H3)
/-- set(xs) -/
structure SetLR (w : World) (K : PySem.W.Frag) (xs : List V) (H : Hp) (Q : VK) : Prop where
  h : ∃ (a : Addr) (ns : List Int), xs = [.ref a] ∧ SqL K H a (ns.map V.int) ∧ ns.length ≤ 60 ∧ ∀ p c, H p = none → c ≤ ns.length → Q (.ref p) (upd H p (SetO w p (fun j => decide (j ∈ ns)) c))
theorem pe_scI {elt tg iter : Expr} {ifs : List Expr} {scope : Scope} {own : List (PySem.Str × Nat)} {pos : Pos} {wi : TI} {g : TG} {tt : TT} {te : TE} (calm : X.calm = true) (nd : X.N.Nodup) (walk : PI X tg iter wi) (ok : BlkOk X.N X.env.scope scope own)
    (hg : ∀ (s : Shared) (H : Hp) (C : Addr) (cl : List (PySem.Str × Addr)) (fp : List Addr), PG (X.blk s H scope (compEnvC scope cl C X.env) fp) tg g)
    (ht : ∀ (s : Shared) (H : Hp) (C : Addr) (cl : List (PySem.Str × Addr)) (fp : List Addr), PTs (X.blk s H scope (compEnvC scope cl C X.env) fp) ifs tt)
    (he : ∀ (s : Shared) (H : Hp) (C : Addr) (cl : List (PySem.Str × Addr)) (fp : List Addr), PE (X.blk s H scope (compEnvC scope cl C X.env) fp) elt te) (fold : ∀ x, foldedSetIterable iter X.env x = pure x := by intro _; rfl) :
    PE X (.SetComp elt [⟨tg, iter, ifs, 0⟩] scope pos) (tScI X.w wi g tt te (own.map (·.2))) := by
  refine ⟨fun pins s σ H Q I rd => ?_⟩
  rw [PpSet.eval_SetComp]
  have reach : ∀ y ∈ scope.names, y.2 = .free → ∃ c, X.env.cells.lookup y.1 = some c := fun y hy e => (ok.free y hy e).elim (fun k => I.ok.has _ (.inl k)) fun k => I.ok.has _ (.inr k)
  refine wpAny_comprehension_free (use := none) rfl fold (closure_ok reach) ok.kind (fun y hy e => by rw [ok.uniq y hy, e]) (thn (walk.run pins s σ H _ I rd) fun _ s1 hx => thn hx fun itv s2 got => ?_)
  obtain ⟨it, fp, tn, J, H2, rfl, I2, T, st2, off2, q⟩ := got
  refine PpSet.newSet_ok (newEnv_comp ?_)
  -- the set
  generalize hD : s2.heap.objs.size = D
  obtain ⟨W, ⟨m0, w0⟩, turn⟩ := q D (I2.hok.fresh (Nat.le_of_eq hD))
  have below : ∀ b ∈ fp, b < s2.heap.objs.size := fun b hb => by
    obtain ⟨o, e, _⟩ := T.obj _ _ st2 b hb
    exact Heap.lt_size e
  generalize e3 : ({ s2 with heap := s2.heap.push (emptySet X.w) } : Shared) = s3
  have hp3 : s3.heap = s2.heap.push (emptySet X.w) := by rw [← e3]
  generalize eH : upd H2 D (SetO X.w D (fun _ => false) 0) = H3 at w0
  have I3 : Inv X pins σ H3 s3 := by
    rw [← e3, ← eH]
    refine I2.laid (t' := s2.toks) (fun b o e => Heap.get?_push_of_some _ e) (Nat.le_of_eq hD) ?_
    rw [← hD]
    exact setO_new (setR_fresh X.w)
  have off3 : ∀ b ∈ fp, FpOk X pins H3 b ∧ b < s3.heap.objs.size := fun b hb => by
    refine ⟨⟨?_, (off2 b hb).2⟩, ?_⟩
    · rw [← eH, upd_ne (by rw [← hD]; exact Nat.ne_of_lt (below b hb))]
      exact (off2 b hb).1
    · rw [hp3, Heap.size_push]
      exact Nat.lt_succ_of_lt (below b hb)
  have st3 : tn 0 s3.heap := T.keep _ _ _ st2 fun b _ o e => by
    rw [hp3]
    exact Heap.get?_push_of_some _ e
  -- the block
  have I4 := block_start I3 ok nd off3
  generalize eC : cellsFrom (s3.heap.objs.size + 1) scope.names (cloFrom X.env.cells scope.names []) = cs at I4
  have pg := hg s3 H3 s3.heap.objs.size cs fp
  have pt := ht s3 H3 s3.heap.objs.size cs fp
  have pe := he s3 H3 s3.heap.objs.size cs fp
  generalize eE : compEnvC scope cs s3.heap.objs.size X.env = ce at I4 pg pt pe
  have cL : ce.locals = s3.heap.objs.size := by
    subst eE
    rfl
  generalize e4 : ({ s3 with heap := pushCells (s3.heap.push { cls := .type "dict", data := .dict #[] }) scope.names } : Shared) = s4 at I4
  have st4 : tn 0 s4.heap := T.keep _ _ _ st3 fun b _ o e => by
    rw [← e4]
    exact pushCells_keeps _ _ _ _ (Heap.get?_push_of_some _ e)
  have stay : ∀ {σ' : L2.St} {H' : Hp} {s' : Shared}, Inv (X.blk s3 H3 scope ce fp) [] σ' H' s' → (∀ b ∈ fp, H' b = none) → ∀ b ∈ fp, FpOk (X.blk s3 H3 scope ce fp) [] H' b := fun {σ' H' s'} J' hn b hb =>
    ⟨hn b hb, (J'.ok.exf b hb).1, J'.ok.exfs b hb, .inl hb, fun x c e => (J'.ok.exf b hb).2 x c e, fun p hp => (nomatch (show p ∈ ([] : List (Addr × Obj)) from hp))⟩
  have done : codeAny (model X.prog X.w) X.A (.compLoop (.SetComp elt [⟨tg, iter, ifs, 0⟩] scope pos) 0 (.ref it) (.ref D) ce) (compPost (model X.prog X.w) X.A X.xe none (EP X pins σ Q) (.ref D) s3.heap.objs.size) s4 := by
    refine PpSet.compLoopS_any (fun n s' => ∃ i H', Inv (X.blk s3 H3 scope ce fp) [] (wipe σ (own.map (·.2))) H' s' ∧ tn i s'.heap ∧ (∀ b ∈ fp, H' b = none) ∧ W i n H') ?_ m0 ⟨0, H3, I4, st4, fun b hb => (off3 b hb).1.1, w0⟩
    rintro n s5 ⟨i, H5, I5, st5, n5, w5⟩
    rcases turn i n H5 w5 with ⟨stop, fin⟩ | ⟨go, Nx, less, step⟩
    · refine thnF (T.done (X.blk s3 H3 scope ce fp) rfl rfl rfl calm i [] s5 _ H5 (fun _ _ => False) I5 (stay I5 n5) st5 stop) fun r s6 ⟨hr, I6⟩ => ?_
      subst hr
      have I7 : Inv X pins σ H5 s6 := I3.call' (ch := fp) I6.os I6.base I6.hok I6.bare fun b hb => let z := (off3 b hb).1; ⟨z.2.2.2.1, z.2.1, z.2.2.2.2.1, z.2.2.2.2.2⟩
      have free : H5 s3.heap.objs.size = none := cL ▸ (show H5 ce.locals = none from I6.free)
      obtain ⟨m, hn, _⟩ := I6.loc
      have hn' : s6.heap.Ns s3.heap.objs.size m := cL ▸ (show s6.heap.Ns ce.locals m from hn)
      obtain ⟨g0, g1, g2, g3, g4, g5⟩ := I3.fpOk (H' := H5) (Nat.le_refl _) free
      exact ⟨m, hn', fun h'' sb => ⟨.ref D, H5, I7.turned (t' := s6.toks) (fun b o hb e => (sb.2 b hb).trans e) g0 g1 g3 g4 g5, rfl, fin⟩⟩
    · refine thnF (T.item (X.blk s3 H3 scope ce fp) rfl rfl rfl calm i [] s5 _ H5 (fun _ _ => False) I5 (stay I5 n5) st5 go) fun r s6 ⟨u, hr, more⟩ => ?_
      subst hr
      refine thnF more fun _ s7 ⟨x, H7, I7, r7, y7, st7, n7⟩ => ?_
      refine thnF (pg.run _ s7 _ H7 x u _ (I7.pinned (stay I7 n7) (T.obj _ _ st7)) r7 (step x H7 y7)) fun _ s8 ⟨σ8, H8, I8, same8, q8⟩ => ?_
      refine thnF (pt.run _ s8 σ8 H8 _ I8 q8) fun b s9 ⟨H9, I9, q9⟩ => ?_
      have again : ∀ {s' : Shared} {H' : Hp}, Inv (X.blk s3 H3 scope ce fp) ([] ++ pinsAt fp s7.heap) σ8 H' s' → Nx H' → ∃ m, m < n ∧ ∃ i H', Inv (X.blk s3 H3 scope ce fp) [] (wipe σ (own.map (·.2))) H' s' ∧ tn i s'.heap ∧ (∀ b ∈ fp, H' b = none) ∧ W i m H' := fun {s' H'} J' nx => by
        obtain ⟨m', hm, w'⟩ := less H' nx
        have pinned : ∀ b ∈ fp, ∀ o, s7.heap.get? b = some o → s'.heap.get? b = some o ∧ H' b = none := fun b hb o e =>
          let z := J'.pin (b, o) (List.mem_append_right _ (List.mem_append_right _ (mem_pinsAt hb e)))
          ⟨z.1, z.2.1⟩
        refine ⟨m', hm, i + 1, H', (J'.unpinned (pins := [])).weak (by rw [← same8, wipe_length]) (fun j v e => (wipe_some (same8 ▸ e : (wipe σ8 (own.map (·.2)))[j]? = some (some v))).1), T.keep _ _ _ st7 fun b hb o e => (pinned b hb o e).1, fun b hb => ?_, w'⟩
        obtain ⟨o, e, _⟩ := T.obj _ _ st7 b hb
        exact (pinned b hb o e).2
      cases b with
      | false =>
        simp only [Bool.false_eq_true, if_false] at q9 ⊢
        exact again I9 q9
      | true =>
        simp only [if_true] at q9 ⊢
        refine thnF (pe.run _ s9 σ8 H9 _ I9 q9) fun z s10 ⟨yv, H10, I10, r10, c, S0, n0, ey, at10, room, nx⟩ => ?_
        subst ey
        exact addI (X := X.blk s3 H3 scope ce fp) I10 at10 r10 room fun s11 I11 => again I11 nx
  have fin := PpSet.codeAny_compStart_set done (T.self X.A 0 _ _ _ st4 done)
  subst eE eC e4
  exact fin
end
section
variable {P : Program} {w : World} {A : Around} {E : Value → Shared → Prop} {s : Shared}
set_option maxHeartbeats 8000000 in
/-- set(xs), xs a list of ints: which are in, and no more than there are items -/
theorem set_ofList {l : Addr} {items : Array Value} (ns : List Int) {Q : Value → Shared → Prop} (calm : A.handled = none) (hl : s.heap.IsList l items) (areI : IntsAre items.toList ns) (few : ns.length + 1 < scanBound)
    (k : ∀ (h' : Heap) (tk c : Nat), SetR w h' s.heap.objs.size (fun j => decide (j ∈ ns)) c → c ≤ ns.length → (∀ b o, s.heap.get? b = some o → h'.get? b = some o) → Q (.ref s.heap.objs.size) { s with heap := h', toks := tk }) :
    wpAny (model P w) A (call (.type "set") [.ref l]) Q E s := by
  have size : items.size = ns.length := by
    have q := IntsAre.length areI
    rwa [Array.length_toList] at q
  obtain ⟨c, tl, hmro⟩ := F.called_set.mro
  have f1 := F.called_set.made
  have f2 := F.called_set.sub
  have f3 := F.called_set.notType
  have f4 := F.called_set.canCreate
  have f5 := F.typeCall_set_1 (.ref l)
  refine wpAny_call (codeAny_of_tree ?_)
  show wpAny _ _ (callAny (.type "set") _) _ _ _
  refine wpAny_pure ⟨Code.quiet_builtin _ (by decide +kernel), codeAny_builtin F.entry_type_call ?_⟩
  rw [Around.under_plain (weight_type_call_type "set" [.ref l] []) rfl]
  repeat (any_goals (first | assumption | wp_step))
  generalize e1 : s.heap.push (emptySet w) = h1
  have z1 : h1.objs.size = s.heap.objs.size + 1 := by rw [← e1, Heap.size_push]
  have up1 : ∀ b o, s.heap.get? b = some o → h1.get? b = some o := fun b o e => by
    rw [← e1]
    exact Heap.get?_push_of_some _ e
  have at1 : h1.get? s.heap.objs.size = some (emptySet w) := by
    rw [← e1]
    exact Heap.get?_push_size _ rfl
  refine codeAny_mono (code_set_led1 (.ref l) (E := E) (Q₁ := fun obj s₁ => obj = .ref s.heap.objs.size ∧ s₁ = { s with heap := h1 }) ⟨rfl, by rw [e1]⟩) fun r s₁ hr => ?_
  cases r with
  | error e => exact hr
  | ok fl =>
    cases fl with
    | next => exact hr.elim
    | brk => exact hr.elim
    | cont => exact hr.elim
    | ret obj =>
      obtain ⟨rfl, rfl⟩ := hr
      have hT : Shared.TypeIs { s with heap := h1 } (.ref s.heap.objs.size) "set" := ⟨_, at1, rfl⟩
      have f6 := F.called_set.init.lookup
      have f7 := F.called_set.init.bind (.ref s.heap.objs.size)
      repeat (any_goals (first | assumption | wp_step))
      refine codeAny_mono (codeAny_call_builtin (R := wants (fun r s₂ => r = .none ∧ ∃ h' tk c, s₂ = { s with heap := h', toks := tk } ∧ SetR w h' s.heap.objs.size (fun j => decide (j ∈ ns)) c ∧ c ≤ ns.length ∧ (∀ b o, s.heap.get? b = some o → h'.get? b = some o)) E)
        F.called_set.init.plain F.entry_set_init (check_set_init_1 hT ?_)) fun r₂ s₂ hr₂ => ?_
      · obtain ⟨⟨oc, od, ob, osl⟩, hol, hcl, nl, hdl⟩ := hl
        simp only at hcl hdl
        subst hcl
        subst hdl
        have here : h1.get? l = some { cls := .type "list", dict := od, data := .seq items nl, slots := osl } := up1 _ _ hol
        have g1 := F.sub_list_set
        have g2 := F.sub_list_frozenset
        have g3 : (Value.type "list" == Value.type "dict") = false := by decide
        have isl : h1.IsList l items := ⟨_, here, rfl, nl, rfl⟩
        unfold Builtin.«set.__init__» noKeywords Builtin.Frozenset.updateFrom
        generalize hPI : pyIter = PI
        wp_walk
        subst hPI
        refine wpAny_pyIter_list isl (wpAny_bind (wpAny_runValue ?_))
        have hlS : l < s.heap.objs.size := Heap.lt_size hol
        have apart : l ≠ h1.objs.size := by
          rw [z1]
          exact Nat.ne_of_lt (Nat.lt_succ_of_lt hlS)
        have off : s.heap.objs.size ∉ [h1.objs.size, l] := by
          rw [z1]
          simp only [List.mem_cons, List.mem_singleton, List.not_mem_nil, or_false, not_or]
          exact ⟨Nat.ne_of_lt (Nat.lt_succ_self _), Nat.ne_of_gt hlS⟩
        have val : ∀ (i : Nat) (v : Value), items[i]? = some v → ∃ k t, ns[i]? = some k ∧ v = .int k t := fun i v hv => by
          have hi : i < ns.length := by
            rw [← size]
            exact (Array.getElem?_eq_some_iff.mp hv).1
          obtain ⟨t, e⟩ := PyProof.Rows.IntsAre.int_at areI i v (by rw [Array.getElem?_toList]; exact hv)
          refine ⟨ns[i], t, List.getElem?_eq_getElem hi, ?_⟩
          rw [e, List.getD_eq_getElem?_getD, List.getElem?_eq_getElem hi]
          rfl
        refine set_update_ints ((Walks.list (by simp [calm]) _ l apart items).toS) s.heap.objs.size off ns size few val (items.size - 0) 0 _ (by omega) (Nat.zero_le _) ⟨⟨_, Heap.get?_push_size _ rfl, rfl, rfl⟩, (isl.push _)⟩ ?start ?fin
        case start => exact ⟨0, Nat.le_refl 0, setR_new_at (Heap.get?_push_of_some _ at1)⟩
        case fin =>
          rintro ⟨h', g', d', tk', os'⟩ c' hm hc' hS'
          obtain rfl : g' = s.gens := hm.gens
          obtain rfl : d' = s.drawn := hm.drawn
          obtain rfl : os' = s.os := hm.os
          show wpAny _ _ _ _ _ _
          refine wpAny_pure ?_
          show wpAny _ _ (ret Value.none) _ _ _
          rw [size] at hc'
          refine wpAny_pure ⟨rfl, h', tk', c', rfl, hS', hc', fun b o e => hm.heap b o ?_ (Heap.get?_push_of_some _ (up1 _ _ e))⟩
          have hb := Heap.lt_size e
          simp only [List.mem_cons, List.mem_singleton, List.not_mem_nil, or_false, not_or]
          refine ⟨Nat.ne_of_lt hb, ?_⟩
          rw [z1]
          exact Nat.ne_of_lt (Nat.lt_succ_of_lt hb)
      · cases r₂ with
        | error e => exact hr₂
        | ok fl₂ =>
          cases fl₂ with
          | next => exact hr₂.elim
          | brk => exact hr₂.elim
          | cont => exact hr₂.elim
          | ret r =>
            obtain ⟨rfl, h', tk, c', rfl, hS', hc', hk'⟩ := hr₂
            repeat (any_goals (first | assumption | wp_step))
            exact k _ _ _ hS' hc' hk'
end
theorem c_setL {X : Cx} (hc : X.calm = true) : CallR X (.type "set") (SetLR X.w X.K) := by
  intro pins s σ H xs us Q I r h
  obtain ⟨a, ns, rfl, hq, hn, q⟩ := h.h
  obtain ⟨u, rfl, rx⟩ := vals1 r
  cases rx
  obtain ⟨its, rv, pl, hz⟩ := I.list hq
  refine set_ofList ns (I.ok.hd hc) pl.isList (by simpa using L2.intsAre_of rv) (Nat.lt_of_le_of_lt (Nat.succ_le_succ hn) (by decide)) fun h' tk c R hcn k => ?_
  exact ⟨.ref s.heap.objs.size, _, I.laid (t' := tk) k (Nat.le_refl _) (setO_new R), rfl, q _ c (I.hok.fresh (Nat.le_refl _)) hcn⟩
theorem e_set {X : Cx} {K : PySem.W.Frag} {w : World} {a : Expr} {ta : TE} {p pos : Pos} (hm : X.mg "set" = none) (hc : X.calm = true) (ha : PE X a ta) (hK : X.K = K := by rfl) (hw : X.w = w := by rfl) (hg : Gl X "set" := by rfl) (he : starEach [a] X.env = (false, eval a X.env) :: starEach [] X.env := by rfl) :
    PE X (.Call (.Name "set" p) [a] [] pos) (tCB (SetLR w K) (tCons ta tNil)) := by
  subst hK hw
  exact pe_callTy (c_setL hc) hg hm (by decide +kernel) (pa_cons ha pa_nil he) (by decide) (by decide) he rfl
/-- sorted of a set of ints -/
structure SrtSR (w : World) (xs : List V) (H : Hp) (Q : VK) : Prop where
  h : rSortedSet w xs H Q
theorem e_sortedSet {X : Cx} {w : World} {a : Expr} {ta : TE} {p pos : Pos} (hm : X.mg "sorted" = none) (hc : X.calm = true) (ha : PE X a ta) (hw : X.w = w := by rfl) (hg : Gl X "sorted" := by rfl) (he : starEach [a] X.env = (false, eval a X.env) :: starEach [] X.env := by rfl) :
    PE X (.Call (.Name "sorted" p) [a] [] pos) (tCB (SrtSR w) (tCons ta tNil)) := by
  subst hw
  exact pe_callB (r := SrtSR X.w) (fun pins s σ H vs us Q I r h => cr_sortedSet hc pins s σ H vs us Q I r h.h) hg hm (by decide +kernel) (pa_cons ha pa_nil he) (by decide) (by decide) he rfl
/-- xs[::-1] -/
structure RevR (K : PySem.W.Frag) (x : V) (H : Hp) (Q : VK) : Prop where
  h : ∃ a xs, x = .ref a ∧ SqL K H a xs ∧ ∀ p, H p = none → Q (.ref p) (upd H p (.lst xs.reverse))
theorem p_mono {X : Cx} {e : Expr} {te : TE} (he : PE X e te) : PE X e (fun σ H Q => ∃ Q0 : VK, te σ H Q0 ∧ ∀ x H1, Q0 x H1 → Q x H1) :=
  ⟨fun pins s σ H Q I ⟨Q0, h, k⟩ => thn (he.run pins s σ H Q0 I h) fun v s1 ⟨x, H1, I1, r, q⟩ => ⟨x, H1, I1, r, k x H1 q⟩⟩
theorem rev_l {K : PySem.W.Frag} {H : Hp} {Q : VK} {a : Addr} {xs : List V} (h : SqL K H a xs) (q : ∀ p H', Same H H' → H' p = some (.lst xs.reverse) → Q (.ref p) H') : RevR K (.ref a) H Q := ⟨a, xs, rfl, h, fun p hp => q p _ (L2.Same.put hp) upd_same⟩
theorem e_revL {X : Cx} {K : PySem.W.Frag} {e : Expr} {te : TE} {k : Nat} {p1 p2 p3 pos : Pos} (he : PE X e te) (hK : X.K = K := by rfl) : PE X (.Subscript e (.Slice none none (some (.UnaryOp .USub (.Constant (.int 1) k p1) p2)) p3) pos) (fun σ H Q => te σ H fun x H1 => RevR K x H1 Q) := by
  subst hK
  exact ⟨fun pins s σ H Q I h => (pe_revL (p_mono he)).run pins s σ H Q I ⟨_, h, fun x H1 r => r.h⟩⟩
end VF
set_option maxHeartbeats 4000000
/-! ## H. d.update(dict), dict(pairs) -/
namespace VF
open PySem L2 PySem.Spec PyProof.Rows
def kvP (p : Str × Int) : Key × V := (Sum.inr p.1, V.int p.2)
section
variable {X : Cx}
/-- d.update(e), two dicts -/
structure UpdR (x : V) (vs : List V) (H : Hp) (Q : VK) : Prop where
  h : ∃ (a b : Addr) (kvs more : List (Key × V)), x = .ref a ∧ vs = [.ref b] ∧ a ≠ b ∧ H a = some (.dK kvs) ∧ H b = some (.dK more) ∧ kvs.length + more.length ≤ sizeLine ∧ Q .non (upd H a (.dK (mergeK kvs more)))
theorem m_update : MtR X "dict.update" UpdR := by
  intro pins s σ H x vs v us Q I rx rv h
  obtain ⟨a, b, kvs, more, rfl, rfl, hab, ha, hb, hz, q⟩ := h.h
  obtain rfl : v = Value.ref a := rx
  obtain ⟨u, rfl, ru⟩ := vals1 rv
  obtain rfl : u = Value.ref b := ru
  obtain ⟨za, na, va, ra, da⟩ := dk_of I.hok ha
  obtain ⟨zb, nb, vb, rb, db⟩ := dk_of I.hok hb
  refine call_meetsIn PySem.F.slot_dict_update da.typeIs PySem.F.entry_dict_update (PySem.F.args_dict_update_2 _ _) (meets_dict_update (mixKind X.prog X.w) a b hab nb) ⟨va, vb, da, db, ?_, fun h' d1 _ same => ?_⟩
  · rw [← ra.length, ← rb.length]
    exact hz
  · have there : ∃ o, h'.get? a = some o := let ⟨o, _, _, ho, _⟩ := d1; ⟨o, ho⟩
    have I1 := d_write (t' := s.toks) I (by rw [ha]; exact True.intro) same there (dk_new (Nat.le_trans (length_mergeK more kvs) hz) na (KV.merge rb ra) d1)
    exact ⟨.non, _, I1, rfl, q⟩
/-- dict(t), t a plain tuple of pairs of a text and an int -/
structure DctMR (K : PySem.W.Frag) (xs : List V) (H : Hp) (Q : VK) : Prop where
  h : ∃ v ps, xs = [v] ∧ Dt K H v (dM ps) ∧ ps.length ≤ 1000 ∧ ∀ p, H p = none → Q (.ref p) (upd H p (.dK (mergeK [] (ps.map kvP))))
theorem pairs_here {pins : List (Addr × Obj)} {σ : L2.St} {H : Hp} {s : Shared} (I : Inv X pins σ H s) : ∀ {xs : List V} {ps : List (Str × Int)}, Dts X.K H xs (ps.map dP) →
    ∃ (bs : List Addr) (vps : List (Value × Value)) (prs : List (Key × Value)), xs = bs.map V.ref ∧ vps.length = ps.length ∧ KV (ps.map kvP) prs ∧
      ∀ (j : Nat) (k v : Value), vps[j]? = some (k, v) → (∃ b, bs[j]? = some b ∧ s.heap.IsTuple b #[k, v]) ∧ ∃ q, prs[j]? = some (q, v) ∧ keyIs q k = true
  | _, [], .nil => ⟨[], [], [], rfl, rfl, .nil, fun j k v e => by simp at e⟩
  | _, p :: r, .cons h t => by
    obtain ⟨b, rfl, hb⟩ := pair_inv h
    obtain ⟨its, rv, pl, _⟩ := I.tuple hb
    obtain ⟨u1, u2, rfl, ⟨t1, rfl⟩, ⟨t2, rfl⟩⟩ := vals2 rv
    obtain ⟨bs, vps, prs, e1, e2, e3, e4⟩ := pairs_here I t
    refine ⟨b :: bs, (.str p.1 t1, .int p.2 t2) :: vps, (Sum.inr p.1, .int p.2 t2) :: prs, by rw [e1]; rfl, by simp [e2], .cons ⟨rfl, ⟨t2, rfl⟩⟩ e3, fun j k v e => ?_⟩
    cases j with
    | zero =>
      simp at e
      obtain ⟨rfl, rfl⟩ := e
      exact ⟨⟨b, rfl, pl⟩, _, rfl, keyIs_str _ _⟩
    | succ j => exact e4 j k v (by simpa using e)
theorem c_dictM (calm : X.calm = true) : CallR X (.type "dict") (DctMR X.K) := by
  intro pins s σ H xs us Q I r h
  obtain ⟨v, ps, rfl, hv, hz, q⟩ := h.h
  obtain ⟨a, o, xs, rfl, hf, nod, _, hd⟩ := hv.plain_inv
  obtain ⟨u, rfl, ru⟩ := vals1 r
  obtain rfl : u = Value.ref a := ru
  obtain ⟨bs, vps, prs, rfl, e2, e3, e4⟩ := pairs_here I hd
  obtain ⟨ho, _, its, rv, o', ho', hc, n, hdat⟩ := I.hok a _ hf
  rw [ho] at ho'
  cases ho'
  have eits : its = bs.map Value.ref := refs_at rv
  subst eits
  have hl : bs.length = ps.length := by
    have z := hd.length
    rwa [List.length_map, List.length_map] at z
  refine PySem.call_dict_pairs (knd := mixKind X.prog X.w) (kvs := prs) (PairArg.tuple a (bs.map Value.ref).toArray (fun j => bs.getD j 0) vps) (I.ok.hd calm) ⟨⟨o, n, ho, hc, nod, hdat⟩, by simp [hl, e2], fun j k v e => ?_⟩ ⟨?_, fun i k v e => ?_⟩ ?_ fun h' tk d1 keep => ?_
  · obtain ⟨⟨b, hb, ht⟩, _⟩ := e4 j k v e
    have eb : bs.getD j 0 = b := by rw [List.getD_eq_getElem?_getD, hb]; rfl
    show (bs.map Value.ref).toArray[j]? = some (.ref (bs.getD j 0)) ∧ PairAt s.heap (bs.getD j 0) k v
    rw [eb]
    exact ⟨by simp [hb], .inl ht⟩
  · rw [← Paired.length e3, List.length_map, e2]
  · obtain ⟨_, q, hq, hk⟩ := e4 i k v e
    exact ⟨q, hq, hk⟩
  · rw [e2]
    exact Nat.le_trans hz (by decide)
  · have hm : (s.heap.objs.size == sysModules) = false := beq_eq_false_iff_ne.mpr (Nat.ne_of_gt I.big)
    have hlen : (mergeK [] (ps.map kvP)).length ≤ sizeLine := by
      refine Nat.le_trans (length_mergeK _ _) ?_
      rw [List.length_nil, Nat.zero_add, List.length_map]
      exact Nat.le_trans hz (by decide)
    exact ⟨.ref s.heap.objs.size, _, I.laid (t' := tk) (fun b o e => keep b o (by simp) e) (Nat.le_refl _) (show ObjOk X.prog X.w _ _ _ (.dK (mergeK [] (ps.map kvP))) from ⟨hlen, hm, merged [] prs, KV.merge e3 .nil, d1⟩), rfl, q _ (I.hok.fresh (Nat.le_refl _))⟩
theorem e_dictM {K : PySem.W.Frag} {a : Expr} {ta : TE} {p pos : Pos} (hm : X.mg "dict" = none) (hc : X.calm = true) (ha : PE X a ta) (hK : X.K = K := by rfl) (hg : Gl X "dict" := by rfl) (he : starEach [a] X.env = (false, eval a X.env) :: starEach [] X.env := by rfl) :
    PE X (.Call (.Name "dict" p) [a] [] pos) (tCB (DctMR K) (tCons ta tNil)) := by
  subst hK
  exact pe_callTy (c_dictM hc) hg hm (by decide +kernel) (pa_cons ha pa_nil he) (by decide) (by decide) he rfl
end
end VF
set_option maxHeartbeats 4000000
/-! ## J. heights_of, tiers -/
namespace VF
open PySem L2
theorem unlike_iff (xs : List Str) : unlike xs = true ↔ xs.Nodup := by
  unfold unlike
  rw [List.all_eq_true, List.Nodup, List.pairwise_iff_getElem]
  constructor
  · intro h i j hi hj hij e
    have q := h j (List.mem_range.mpr hj)
    have e1 : xs.getD j "" = xs[j] := by rw [List.getD_eq_getElem?_getD, List.getElem?_eq_getElem hj]; rfl
    rw [e1] at q
    have m : xs[j] ∈ xs.take j := by
      rw [← e]
      exact List.mem_iff_getElem.mpr ⟨i, by rw [List.length_take]; omega, by rw [List.getElem_take]⟩
    simp [m] at q
  · intro h j hj
    have hj := List.mem_range.mp hj
    have e1 : xs.getD j "" = xs[j] := by rw [List.getD_eq_getElem?_getD, List.getElem?_eq_getElem hj]; rfl
    rw [e1]
    simp only [Bool.not_eq_true', decide_eq_false_iff_not]
    intro m
    obtain ⟨i, hi, e⟩ := List.mem_iff_getElem.mp m
    rw [List.getElem_take] at e
    rw [List.length_take] at hi
    exact h i j (by omega) hj (by omega) e
/-- the pairs put in, the later ones win -/
def putAll (f : Str → Int) (kvs : List (Str × Int)) : Str → Int := kvs.foldl (fun f p x => if x = p.1 then p.2 else f x) f
theorem putAll_snoc (f : Str → Int) (kvs : List (Str × Int)) (p : Str × Int) : putAll f (kvs ++ [p]) = fun x => if x = p.1 then p.2 else putAll f kvs x := by
  unfold putAll
  rw [List.foldl_append]
  rfl
theorem putAll_cons (f : Str → Int) (kvs : List (Str × Int)) (p : Str × Int) : putAll f (p :: kvs) = putAll (fun x => if x = p.1 then p.2 else f x) kvs := rfl
def dkf (os : List Str) (f : Str → Int) : List (Key × V) := os.map fun x => kvP (x, f x)
theorem mergeK_snoc (a b : List (Key × V)) (p : Key × V) : mergeK a (b ++ [p]) = putK (mergeK a b) p.1 p.2 := by
  unfold mergeK
  rw [List.foldl_append]
  rfl
theorem any_key (L : List (Str × Int)) (k : Str) : ((L.map kvP).any fun kv => decide (kv.1 = Sum.inr k)) = decide (k ∈ L.map (·.1)) := by
  induction L with
  | nil => rfl
  | cons p r ih =>
    rw [List.map_cons, List.any_cons, ih, List.map_cons]
    have e : decide ((kvP p).1 = Sum.inr k) = decide (k = p.1) := by
      apply decide_eq_decide.mpr
      constructor
      · intro h
        exact (Sum.inr.inj h).symm
      · intro h
        rw [h]
        rfl
    rw [e]
    simp only [List.mem_cons, Bool.decide_or]
theorem put_map (L : List (Str × Int)) (p : Str × Int) : putK (L.map kvP) (kvP p).1 (kvP p).2 = (if p.1 ∈ L.map (·.1) then L.map (fun q => if q.1 = p.1 then (q.1, p.2) else q) else L ++ [p]).map kvP := by
  unfold putK
  have e : ((L.map kvP).any fun kv => decide (kv.1 = (kvP p).1)) = decide (p.1 ∈ L.map (·.1)) := any_key L p.1
  rw [e]
  by_cases h : p.1 ∈ L.map (·.1)
  · rw [if_pos (decide_eq_true h), if_pos h, List.map_map, List.map_map]
    refine List.map_congr_left fun q _ => ?_
    show (if (kvP q).1 = (kvP p).1 then ((kvP q).1, (kvP p).2) else kvP q) = kvP (if q.1 = p.1 then (q.1, p.2) else q)
    by_cases hq : q.1 = p.1
    · rw [if_pos (by show (Sum.inr q.1 : Key) = Sum.inr p.1; rw [hq]), if_pos hq]
      rfl
    · rw [if_neg (show ¬ (kvP q).1 = (kvP p).1 from fun z => hq (Sum.inr.inj z)), if_neg hq]
  · rw [if_neg (by simpa using h), if_neg h, List.map_append]
    rfl
theorem putAll_none {k : Str} : ∀ {L : List (Str × Int)} {f : Str → Int}, k ∉ L.map (·.1) → putAll f L k = f k
  | [], _, _ => rfl
  | p :: r, f, h => by
    rw [List.map_cons, List.mem_cons, not_or] at h
    rw [putAll_cons, putAll_none h.2, if_neg h.1]
theorem putAll_congr : ∀ (L : List (Str × Int)) {f g : Str → Int} (x : Str), f x = g x → putAll f L x = putAll g L x
  | [], _, _, _, h => h
  | p :: r, f, g, x, h => by
    rw [putAll_cons, putAll_cons]
    refine putAll_congr r x ?_
    by_cases hx : x = p.1
    · rw [if_pos hx, if_pos hx]
    · rw [if_neg hx, if_neg hx, h]
theorem putAll_in {k : Str} : ∀ {L : List (Str × Int)} {f g : Str → Int}, k ∈ L.map (·.1) → putAll f L k = putAll g L k
  | p :: r, f, g, h => by
    rw [putAll_cons, putAll_cons]
    by_cases hk : k = p.1
    · exact putAll_congr r k (by rw [if_pos hk, if_pos hk])
    · rw [List.map_cons, List.mem_cons] at h
      exact putAll_in (h.resolve_left hk)
theorem putAll_swap (f : Str → Int) (k : Str) (v : Int) : ∀ (L : List (Str × Int)) (x : Str), (x = k → k ∈ L.map (·.1)) → putAll f (L.map fun q => if q.1 = k then (q.1, v) else q) x = if x = k then v else putAll f L x
  | [], x, h => by
    by_cases hx : x = k
    · exact absurd (h hx) (by simp)
    · rw [if_neg hx]
      rfl
  | p :: r, x, h => by
    rw [List.map_cons, putAll_cons, putAll_cons]
    by_cases hx : x = k
    · rw [if_pos hx]
      subst hx
      by_cases hr : x ∈ r.map (·.1)
      · rw [putAll_swap _ x v r x (fun _ => hr), if_pos rfl]
      · have hp : x = p.1 := by
          have q := h rfl
          rw [List.map_cons, List.mem_cons] at q
          exact q.resolve_right hr
        have hm : (r.map fun q => if q.1 = x then (q.1, v) else q) = r := by
          have q : ∀ q ∈ r, (if q.1 = x then (q.1, v) else q) = q := fun q hq => if_neg fun z => hr (by rw [← z]; exact List.mem_map_of_mem hq)
          rw [List.map_congr_left q]
          simp
        rw [hm, putAll_none hr, if_pos hp.symm]
        simp [hp]
    · rw [if_neg hx]
      by_cases hp : p.1 = k
      · have hxp : ¬ x = p.1 := fun z => hx (z.trans hp)
        rw [if_pos hp]
        have q := putAll_swap (fun y => if y = p.1 then v else f y) k v r x (fun z => absurd z hx)
        rw [if_neg hx] at q
        rw [q]
        exact putAll_congr r x (by show (if x = p.1 then v else f x) = if x = p.1 then p.2 else f x; rw [if_neg hxp, if_neg hxp])
      · rw [if_neg hp, putAll_swap _ k v r x (fun z => absurd z hx), if_neg hx]
theorem snocInd {α : Type} {P : List α → Prop} (h0 : P []) (h1 : ∀ l a, P l → P (l ++ [a])) (l : List α) : P l := by
  have q : ∀ r : List α, P r.reverse := fun r => by
    induction r with
    | nil => exact h0
    | cons a r ih =>
      rw [List.reverse_cons]
      exact h1 _ _ ih
  rw [← List.reverse_reverse l]
  exact q _
/-- what dict(pairs) holds: pairs again, to the same effect -/
theorem mergeNil (L : List (Str × Int)) : ∃ L' : List (Str × Int), mergeK [] (L.map kvP) = L'.map kvP ∧ (∀ k, k ∈ L'.map (·.1) ↔ k ∈ L.map (·.1)) ∧ ∀ f, putAll f L' = putAll f L := by
  refine snocInd (P := fun L => ∃ L' : List (Str × Int), mergeK [] (L.map kvP) = L'.map kvP ∧ (∀ k, k ∈ L'.map (·.1) ↔ k ∈ L.map (·.1)) ∧ ∀ f, putAll f L' = putAll f L) ⟨[], rfl, fun _ => Iff.rfl, fun _ => rfl⟩ (fun L p ih => ?_) L
  · obtain ⟨L', e1, e2, e3⟩ := ih
    rw [List.map_append]
    show ∃ L'', mergeK [] (L.map kvP ++ [kvP p]) = _ ∧ _
    rw [mergeK_snoc, e1, put_map]
    by_cases h : p.1 ∈ L'.map (·.1)
    · rw [if_pos h]
      refine ⟨_, rfl, fun k => ?_, fun f => ?_⟩
      · have q : (L'.map fun q => if q.1 = p.1 then (q.1, p.2) else q).map (·.1) = L'.map (·.1) := by
          rw [List.map_map]
          refine List.map_congr_left fun q _ => ?_
          show (if q.1 = p.1 then (q.1, p.2) else q).1 = q.1
          split <;> rfl
        rw [q, e2, List.map_append, List.mem_append]
        constructor
        · exact .inl
        · rintro (z | z)
          · exact z
          · have z' : k = p.1 := by simpa using z
            rw [z', ← e2]
            exact h
      · funext x
        rw [putAll_swap f p.1 p.2 L' x (fun _ => h), putAll_snoc, e3]
    · rw [if_neg h]
      refine ⟨_, rfl, fun k => ?_, fun f => ?_⟩
      · rw [List.map_append, List.mem_append, e2, List.map_append, List.mem_append]
      · rw [putAll_snoc, putAll_snoc, e3]
theorem merge_dkf {os : List Str} (f : Str → Int) : ∀ (L : List (Str × Int)), (∀ k ∈ L.map (·.1), k ∈ os) → mergeK (dkf os f) (L.map kvP) = dkf os (putAll f L)
  | [], _ => rfl
  | p :: r, h => by
    have hp : p.1 ∈ os := h p.1 (by simp)
    have step : putK (dkf os f) (kvP p).1 (kvP p).2 = dkf os (fun x => if x = p.1 then p.2 else f x) := by
      have e : dkf os f = (os.map fun x => (x, f x)).map kvP := by
        unfold dkf
        rw [List.map_map]
        rfl
      have mem : p.1 ∈ (os.map fun x => (x, f x)).map (·.1) := by
        rw [List.map_map]
        simpa [Function.comp_def] using hp
      rw [e, put_map, if_pos mem, List.map_map, List.map_map]
      unfold dkf
      refine List.map_congr_left fun x _ => ?_
      show kvP (if x = p.1 then (x, p.2) else (x, f x)) = kvP (x, if x = p.1 then p.2 else f x)
      by_cases hx : x = p.1
      · rw [if_pos hx, if_pos hx]
      · rw [if_neg hx, if_neg hx]
    show mergeK (putK (dkf os f) (kvP p).1 (kvP p).2) (r.map kvP) = _
    rw [step, merge_dkf _ r (fun k hk => h k (by rw [List.map_cons]; exact List.mem_cons_of_mem _ hk))]
    rfl
/-- found.update(dict(pairs)) -/
theorem merge2_dkf {os : List Str} (f : Str → Int) (L : List (Str × Int)) (h : ∀ k ∈ L.map (·.1), k ∈ os) : mergeK (dkf os f) (mergeK [] (L.map kvP)) = dkf os (putAll f L) := by
  obtain ⟨L', e1, e2, e3⟩ := mergeNil L
  rw [e1, merge_dkf f L' fun k hk => h k ((e2 k).mp hk), e3]
theorem mergeNil_nodup : ∀ (L : List (Str × Int)), (L.map (·.1)).Nodup → mergeK [] (L.map kvP) = L.map kvP := by
  refine snocInd (fun _ => rfl) (fun L p ih => ?_)
  · intro h
    rw [List.map_append, List.nodup_append] at h
    have hn : p.1 ∉ L.map (·.1) := fun z => h.2.2 _ z _ (by simp) rfl
    rw [List.map_append]
    show mergeK [] (L.map kvP ++ [kvP p]) = _
    rw [mergeK_snoc, ih h.1, put_map, if_neg hn, List.map_append]
theorem mergeNil_dkf {os : List Str} (c : Int) (h : os.Nodup) : mergeK [] (os.map fun x => kvP (x, c)) = dkf os fun _ => c := by
  have e : (os.map fun x => kvP (x, c)) = (os.map fun x => (x, c)).map kvP := by
    rw [List.map_map]
    rfl
  rw [e, mergeNil_nodup _ (by rw [List.map_map]; simpa [Function.comp_def] using h), List.map_map]
  rfl
theorem valV_dkf {os : List Str} {f : Str → Int} : ∀ {x : Str}, x ∈ os → valV (dkf os f) (Sum.inr x) = some (.int (f x)) := by
  intro x hx
  unfold valV dkf
  induction os with
  | nil => cases hx
  | cons y r ih =>
    rw [List.map_cons, List.find?_cons]
    by_cases h : y = x
    · subst h
      simp [kvP]
    · have e : decide ((kvP (y, f y)).1 = Sum.inr x) = false := decide_eq_false fun z => h (Sum.inr.inj z)
      rw [e]
      exact ih ((List.mem_cons.mp hx).resolve_left fun z => h z.symm)
/-- how high a ballot has an option -/
def heightOf : Bal → Str → Int
  | .ord ts => (List.range ts.length).foldl (fun f i => putAll f ((ts.getD i []).map fun x => (x, (ts.length : Int) - (i : Int)))) fun _ => 0
  | .lets ns => putAll (fun _ => 0) (ns.map fun x => (x, 1))
  | .marks ps => putAll (fun _ => 0) ps

/-! ### a dict comprehension over texts, its values ints -/
section
variable {J : It} {G : Hp → Prop} {Y : Nat → Hp → V → Hp → Prop}
theorem dc_m {β : Type} (ds : List β) (fk : β → Str) (fv : β → Int) (w : Walk J ds.length G Y) {g : TG} {tk tv : TE} {vs : List Nat} {σ : St} {H1 : Hp} {D : Addr} {Qd : Hp → Prop} (hD : H1 D = none) (hn : ds.length < sizeLine)
    (hG : ∀ H, Same H1 H → G H)
    (hs : ∀ (i : Nat) (b : β) (x : V) (H H' : Hp), ds[i]? = some b → Same H1 H → Y i H x H' → Same H H' ∧ ∀ (A : V → V → Hp → Prop),
      (∀ H4, Same H' H4 → A (.str (fk b)) (.int (fv b)) H4) → g x (wipe σ vs) H' fun σ2 H2 => wipe σ2 vs = wipe σ vs ∧ tk σ2 H2 fun y H3 => tv σ2 H3 fun z H4 => A y z H4)
    (hd : ∀ H, Same H1 H → H D = some (.dK (mergeK [] (ds.map fun b => kvP (fk b, fv b)))) → Qd H) :
    ∃ W : Nat → Nat → Hp → Prop, (∃ m, W 0 m (upd H1 D (.dK []))) ∧ ∀ i m H, W i m H →
      (J.stop i H ∧ Qd H) ∨ (J.go i H ∧ ∃ Nx : Hp → Prop, (∀ H', Nx H' → ∃ m', m' < m ∧ W (i + 1) m' H') ∧ ∀ x H', J.yld i H x H' → g x (wipe σ vs) H' fun σ2 H2 => wipe σ2 vs = wipe σ vs ∧ tYes σ2 H2 fun b H3 =>
        if b = true then tk σ2 H3 fun y H4 => tv σ2 H4 fun z H5 => ∃ kvs k, y = kV k ∧ H5 D = some (.dK kvs) ∧ kvs.length < sizeLine ∧ Nx (upd H5 D (.dK (putK kvs k z))) else Nx H3) := by
  refine lc2_out w (fun i H => Same H1 H ∧ H D = some (.dK (mergeK [] ((ds.take i).map fun b => kvP (fk b, fv b))))) ⟨L2.Same.put hD, upd_same⟩ (fun i H _ h => hG H h.1) ?_ ?_
  · rintro i x H H' hi ⟨s, hy⟩ y
    obtain ⟨s', k⟩ := hs i ds[i] x H H' (by simp [hi]) s y
    refine k _ fun H4 s4 => ⟨_, Sum.inr (fk ds[i]), rfl, s4 _ _ (s' _ _ hy), ?_, (s.trans (s'.trans s4)).over hD, ?_⟩
    · refine Nat.lt_of_le_of_lt (length_mergeK _ _) ?_
      rw [List.length_nil, Nat.zero_add, List.length_map, List.length_take]
      exact Nat.lt_of_le_of_lt (Nat.min_le_right ..) hn
    · rw [upd_same, List.take_succ_eq_append_getElem hi, List.map_append]
      show _ = some (HO.dK (mergeK [] (_ ++ [kvP (fk ds[i], fv ds[i])])))
      rw [mergeK_snoc]
      rfl
  · rintro H ⟨s, hy⟩
    rw [List.take_length] at hy
    exact hd H s hy
end
/-- y = {k: v for ..} on one line, y a local -/
theorem ps_setDc {X : Cx} {i : Nat} {y : Str} {py : Pos} {kx vx tg iter : Expr} {ifs : List Expr} {scope : Scope} {own : List (Str × Nat)} {pos spos : Pos} {wi : TI} {g : TG} {tt : TT} {tk tv : TE} (calm : X.calm = true) (nd : X.N.Nodup) (at_ : X.N[i]? = some y) (loc : X.env.scope.names.lookup y = some .local)
    (swap : swapsWith (.DictComp kx vx [⟨tg, iter, ifs, 0⟩] scope pos) (some (.Name y py)) spos.line X.env = pure true) (walk : PI X tg iter wi) (ok : BlkOk X.N X.env.scope scope own)
    (hg : ∀ (s : Shared) (H : Hp) (C : Addr) (cl : List (Str × Addr)) (fp : List Addr), PG (X.blk s H scope (compEnvC scope cl C X.env) fp) tg g)
    (ht : ∀ (s : Shared) (H : Hp) (C : Addr) (cl : List (Str × Addr)) (fp : List Addr), PTs (X.blk s H scope (compEnvC scope cl C X.env) fp) ifs tt)
    (hk : ∀ (s : Shared) (H : Hp) (C : Addr) (cl : List (Str × Addr)) (fp : List Addr), PE (X.blk s H scope (compEnvC scope cl C X.env) fp) kx tk)
    (he : ∀ (s : Shared) (H : Hp) (C : Addr) (cl : List (Str × Addr)) (fp : List Addr), PE (X.blk s H scope (compEnvC scope cl C X.env) fp) vx tv) (fold : ∀ x, foldedSetIterable iter X.env x = pure x := by intro _; rfl) :
    PS X (.Assign [.Name y py] (.DictComp kx vx [⟨tg, iter, ifs, 0⟩] scope pos) spos) (tAsg (tDc wi g tt tk tv (own.map (·.2))) (gName i)) := by
  refine ⟨fun pins s σ H D I rd => ?_⟩
  have rd : tDc wi g tt tk tv (own.map (·.2)) σ H (fun x H1 => gName i x σ H1 D.nx) := rd
  rw [PySem.exec_Assign_Name_used _ _ _ _ swap]
  refine wpAny_bind (wpAny_standAt (wpAny_bind ?_))
  refine wpAny_bind (thn (dc_core (use := some (assign (.Name y py) X.env)) (Qf := fun _ s' => SP X pins D .next s') calm nd I walk ok hg ht hk he fold rd fun L C s' m H' J q names off => ?_) fun _ s' done => wpAny_pure (wpAny_pure done))
  obtain ⟨o0, o1, o2, o3, o4, o5⟩ := off
  refine wpAny_assign_Name (store_ok2 (v := V.ref L) J nd at_ (.inl loc) rfl (fun s2 J2 ⟨a, but, which⟩ => ?_) (.inr loc))
  have apart : C ≠ a := which.elim (fun z => z ▸ o1) fun z e => o4 y a z e.symm
  exact ⟨m, names.sameBut but apart, fun h3 but3 => ⟨_, H', J2.turned (t' := s2.toks) (fun b o hb e => (but3.2 b hb).trans e) o0 o1 o3 o4 o5, q⟩⟩
theorem sw_dict {kx vx : Expr} {gs : List Comprehension} {scope : Scope} {pos py : Pos} {y : Str} {l : Nat} {env : Env} (hk : env.scope.kind = .function) (hy : env.scope.names.lookup y = some .local) (hl : (py.line == pos.line) = true)
    (ha : (scope.names.any fun (n, k) => n == y && (k == .local || k == .cell)) = false) : swapsWith (.DictComp kx vx gs scope pos) (some (.Name y py)) l env = pure true := by
  have b1 : env.kindOf y = some .local := hy
  have b2 : env.blockKind = .function := by
    unfold Env.blockKind
    rw [hk]
    rfl
  unfold swapsWith
  simp only [b2, b1, ha, Expr.pos, hl]
  rfl
/-! ### heights_of -/
abbrev s16 : Stmt := top 16
abbrev s17 : Stmt := top 17
def spHeights (K : PySem.W.Frag) : Sp := fun vs H Q _ => ∃ o v b os, vs = [o, v] ∧ Dt K H o (dN os) ∧ Dt K H v (dB b) ∧ OkO os ∧ OkB os b ∧ ∀ p H', Same H H' → H p = none → H' p = some (.dK (dkf os (heightOf b))) → Q (.ref p) H'
def hfold (ts : List (List Str)) (i : Nat) : Str → Int := (List.range i).foldl (fun f i => putAll f ((ts.getD i []).map fun x => (x, (ts.length : Int) - (i : Int)))) fun _ => 0
theorem hfold_succ (ts : List (List Str)) (i : Nat) : hfold ts (i + 1) = putAll (hfold ts i) ((ts.getD i []).map fun x => (x, (ts.length : Int) - (i : Int))) := by
  unfold hfold
  rw [List.range_succ, List.foldl_append]
  rfl
section
variable {P : Program} {w : World} {K : PySem.W.Frag} {mg : Str → Option Value} {base : Heap}
theorem sc16 : FnScope ["options", "ballot", "word", "things", "found", "name", "at", "tier"] ["options", "ballot"] (defScope s16) := ⟨rfl, rfl, rfl, by decide +kernel, rfl, by decide +kernel, by decide +kernel⟩
theorem ok_heights {f : Addr} {fd : FuncData} (F : Fun K "heights_of" "heights_of" s16 f fd) (B : Bt mg) : FnOk P w K mg base CX0 1 f fd ["options", "ballot"] (spHeights K) := by
  refine F.ok sc16 (fun vs H Q E h => ?_) (fun cdv A outer s H vs Q E hr h => ?_)
  · obtain ⟨o, v, b, os, rfl, _⟩ := h
    rfl
  · obtain ⟨o, v, b, os, rfl, ho, hv, oo, ob, k⟩ := h
    obtain ⟨ao, rfl, hao⟩ := Dt.names_inv ho
    obtain ⟨a, x2, rfl, ha, h2⟩ := ball_inv hv
    have nd := (unlike_iff os).mp oo.unl
    have los : os.length < sizeLine := Nat.lt_of_le_of_lt oo.most (by decide)
    refine ⟨_, pss_cons (ps_asg (pv 1) (pg_tup (by rfl) (by exact pgs_cons (pg_name (i := 2) sc16.nd rfl (Or.inl rfl)) (pgs_cons (pg_name (i := 3) sc16.nd rfl (Or.inr rfl)) pgs_nil))))
      (pss_cons (ps_setDc (i := 4) (own := [("name", 5)]) rfl sc16.nd rfl rfl (sw_dict rfl rfl rfl (by decide +kernel)) (i_tup (K := K) (pv 0)) (blkOk_by (N := ["options", "ballot", "word", "things", "found", "name", "at", "tier"]) (sc := defScope s16) (by decide +kernel))
        (fun _ _ _ _ _ => pg_name (i := 5) sc16.nd rfl (Or.inl rfl)) (fun _ _ _ _ _ => pts_nil) (fun _ _ _ _ _ => pv 5) (fun _ _ _ _ _ => pe_int))
      (pss_cons (ps_if (pt_cmpR op_eq (pv 2) pe_str (nomark _))
        (pss_one (ps_for PassesOwn.never rfl (pi_enumT (by rfl) B.enm (pa_cons (pv 3) pa_nil)) (g_tup (K := K) (n := 2) rfl (by exact pgs_cons (pg_name (i := 6) sc16.nd rfl (Or.inr rfl)) (pgs_cons (pg_name (i := 7) sc16.nd rfl (Or.inl rfl)) pgs_nil)))
          (pss_one (ps_expr (pe_bm PySem.F.plainAttrs_dict PySem.F.slot_dict_update PySem.F.type_dict_update m_update (pv 4) (pa_cons (pe_dc (own := [("name", 5)]) rfl sc16.nd (i_tup (K := K) (pv 7)) (blkOk_by (N := ["options", "ballot", "word", "things", "found", "name", "at", "tier"]) (sc := defScope s16) (by decide +kernel))
            (fun _ _ _ _ _ => pg_name (i := 5) sc16.nd rfl (Or.inl rfl)) (fun _ _ _ _ _ => pts_nil) (fun _ _ _ _ _ => pv 5) (fun _ _ _ _ _ => pe_op op_sub (e_len (K := K) B.len (pv 3)) (pv 6))) pa_nil))))))
        (pss_one (ps_if (pt_cmpR op_eq (pv 2) pe_str (nomark _))
          (pss_one (ps_expr (pe_bm PySem.F.plainAttrs_dict PySem.F.slot_dict_update PySem.F.type_dict_update m_update (pv 4) (pa_cons (pe_dc (own := [("name", 5)]) rfl sc16.nd (i_tup (K := K) (pv 3)) (blkOk_by (N := ["options", "ballot", "word", "things", "found", "name", "at", "tier"]) (sc := defScope s16) (by decide +kernel))
            (fun _ _ _ _ _ => pg_name (i := 5) sc16.nd rfl (Or.inl rfl)) (fun _ _ _ _ _ => pts_nil) (fun _ _ _ _ _ => pv 5) (fun _ _ _ _ _ => pe_int)) pa_nil))))
          (pss_one (ps_expr (pe_bm PySem.F.plainAttrs_dict PySem.F.slot_dict_update PySem.F.type_dict_update m_update (pv 4) (pa_cons (e_dictM (K := K) B.tyDct rfl (pv 3)) pa_nil)))))))
      (pss_one (ps_ret (pv 4))))), ?_⟩
    have item : ∀ {xs : List Str} {i : Nat} {z : V} {c : Str}, xs[i]? = some c → (xs.map V.str)[i]? = some z → z = .str c := fun {xs i z c} h1 h2 => by
      rw [List.getElem?_map, h1] at h2
      cases h2
      rfl
    refine ⟨_, rfl, a, _, rfl, ha, rfl, _, _, rfl, _, _, rfl, rfl, ?_⟩
    refine ⟨_, rfl, ao, rfl, ⟨_, hao⟩, fun p hp => dc_m os id (fun _ => 0) (by simpa using walk_tup (K := K) (a := ao) (xs := os.map V.str)) hp los (fun H1 sm => same_t sm hao) ?_ fun H1 sm hy => ?_⟩
    · rintro i c x H1 H2 hc sm ⟨rfl, hx⟩
      obtain rfl := item hc hx
      exact ⟨Same.refl _, fun A hA => ⟨rfl, _, rfl, hA _ (Same.refl _)⟩⟩
    have hy0 : H1 p = some (.dK (dkf os fun _ => 0)) := by
      rw [hy]
      show some (HO.dK (mergeK [] (os.map fun x => kvP (x, 0)))) = _
      rw [mergeNil_dkf 0 nd]
    have hp0 : H p = none := hp
    have few : ∀ (f : Str → Int) (L : List (Str × Int)), L.length ≤ 100 → (dkf os f).length + (mergeK [] (L.map kvP)).length ≤ sizeLine := fun f L hl => by
      have q := length_mergeK (L.map kvP) []
      rw [List.length_nil, List.length_map] at q
      have q2 : (dkf os f).length = os.length := by unfold dkf; rw [List.length_map]
      have q3 := oo.most
      exact Nat.le_trans (show _ ≤ 1000 by omega) (by decide)
    refine ⟨_, rfl, rfl, _, rfl, ?_⟩
    cases ob with
    | @ord ts hN ne hm =>
      refine iteT ?_
      obtain ⟨a2, ys, rfl, ht, hd⟩ := h2.tup_inv
      have hlen := hd.length
      rw [List.length_map] at hlen
      refine ⟨_, rfl, a2, ys, rfl, same_t sm ht, for_it walk_enumT (fun i σ Hz => ∃ y1 y2, σ = [some (.ref ao), some (.ref a), some (.str "order"), some (.ref a2), some (.ref p), none, y1, y2] ∧ Same H Hz ∧ Hz p = some (.dK (dkf os (hfold ts i)))) ⟨none, none, rfl, sm, hy0⟩ (fun i σ Hz _ ⟨_, _, _, s, _⟩ => same_t s ht) ?_ ?_⟩
      · rintro i z σ Hz Hz' hi ⟨y1, y2, rfl, sz, hz⟩ ⟨T, u1, u2, rfl, hT, rfl, e1, e2⟩
        cases e1
        obtain ⟨d, hd1, hd2⟩ := hd.get e2
        rw [hlen] at hi
        rw [List.getElem?_map, List.getElem?_eq_getElem hi] at hd1
        cases hd1
        obtain ⟨b, rfl, hb⟩ := hd2.names_inv
        have sT : Same Hz (upd Hz T (.tup [.int (i : Nat), .ref b])) := L2.Same.put hT
        have hlt : ts[i].length ≤ 100 := by
          have q := flat_le ts (i + 1)
          rw [flat_take (List.getElem?_eq_getElem hi), List.length_append] at q
          have q2 := hN.most
          omega
        refine ⟨T, _, rfl, SqT.of upd_same, rfl, _, _, rfl, _, _, rfl, rfl, _, rfl, .inr (.inr (.inl ⟨rfl, .inl ⟨_, sT _ _ hz⟩⟩)), ?_⟩
        refine ⟨_, rfl, b, rfl, ⟨_, same_t (sz.trans sT) hb⟩, fun D hD => dc_m ts[i] id (fun _ => (ts.length : Int) - (i : Int)) (by simpa using walk_tup (K := K) (a := b) (xs := ts[i].map V.str)) hD (Nat.lt_of_le_of_lt hlt (by decide)) (fun H2 s2 => same_t ((sz.trans sT).trans s2) hb) ?_ fun H2 s2 hy2 => ?_⟩
        · rintro j c x H2 H3 hc s2 ⟨rfl, hx⟩
          obtain rfl := item hc hx
          refine ⟨Same.refl _, fun A hA => ⟨rfl, _, rfl, _, rfl, a2, ys, rfl, .inr (same_t ((sz.trans sT).trans s2) ht), _, rfl, _, _, rfl, rfl, ?_⟩⟩
          have q := hA H3 (Same.refl _)
          show A (.str c) (.int ((ys.length : Int) - (i : Int))) H3
          rw [hlen]
          exact q
        · have hD0 : Hz D = none := sT.free hD
          have hpD : p ≠ D := ne_of_none hz hD0
          have e3 : (ts[i].map fun b => kvP (id b, (ts.length : Int) - (i : Int))) = (ts[i].map fun x => (x, (ts.length : Int) - (i : Int))).map kvP := by
            rw [List.map_map]
            rfl
          rw [e3] at hy2
          refine ⟨p, D, _, _, rfl, rfl, hpD, s2 _ _ (sT _ _ hz), hy2, few _ _ (by rw [List.length_map]; exact hlt), _, _, rfl, ((sz.trans sT).trans s2).over hp0, ?_⟩
          rw [upd_same, merge2_dkf _ _ (fun k hk => someOf_mem hN.some k (List.mem_flatten.mpr ⟨ts[i], List.getElem_mem hi, by rw [List.map_map] at hk; simpa [Function.comp_def] using hk⟩)), hfold_succ]
          have e4 : ts.getD i [] = ts[i] := by rw [List.getD_eq_getElem?_getD, List.getElem?_eq_getElem hi]; rfl
          rw [e4]
      · rintro σ Hz ⟨y1, y2, rfl, sz, hz⟩
        rw [hlen] at hz
        exact ⟨_, rfl, k p Hz sz hp0 hz⟩
    | @lets ns hN =>
      refine iteF ⟨_, rfl, rfl, _, rfl, iteT ?_⟩
      obtain ⟨b, rfl, hb⟩ := h2.names_inv
      refine ⟨_, rfl, .inr (.inr (.inl ⟨rfl, .inl ⟨_, hy0⟩⟩)), _, rfl, b, rfl, ⟨_, same_t sm hb⟩, fun D hD => dc_m ns id (fun _ => 1) (by simpa using walk_tup (K := K) (a := b) (xs := ns.map V.str)) hD (Nat.lt_of_le_of_lt hN.most (by decide)) (fun H2 s2 => same_t (sm.trans s2) hb) ?_ fun H2 s2 hy2 => ?_⟩
      · rintro j c x H2 H3 hc s2 ⟨rfl, hx⟩
        obtain rfl := item hc hx
        exact ⟨Same.refl _, fun A hA => ⟨rfl, _, rfl, hA H3 (Same.refl _)⟩⟩
      · have hpD : p ≠ D := ne_of_none hy0 hD
        have e3 : (ns.map fun b => kvP (id b, 1)) = (ns.map fun x => (x, 1)).map kvP := by
          rw [List.map_map]
          rfl
        rw [e3] at hy2
        refine ⟨p, D, _, _, rfl, rfl, hpD, s2 _ _ hy0, hy2, few _ _ (by rw [List.length_map]; exact hN.most), _, rfl, k p _ ((sm.trans s2).over hp0) hp0 ?_⟩
        rw [upd_same, merge2_dkf _ _ (fun k hk => someOf_mem hN.some k (by rw [List.map_map] at hk; simpa [Function.comp_def] using hk))]
        rfl
    | @marks ps hN hm =>
      refine iteF ⟨_, rfl, rfl, _, rfl, iteF ?_⟩
      have hl : ps.length ≤ 100 := by
        have q := hN.most
        rwa [List.length_map] at q
      refine ⟨_, rfl, .inr (.inr (.inl ⟨rfl, .inl ⟨_, hy0⟩⟩)), _, rfl, ⟨x2, ps, rfl, h2.same sm, by omega, fun D hD => ?_⟩⟩
      have hpD : p ≠ D := ne_of_none hy0 hD
      have s2 : Same H1 (upd H1 D (.dK (mergeK [] (ps.map kvP)))) := L2.Same.put hD
      refine ⟨p, D, _, _, rfl, rfl, hpD, s2 _ _ hy0, upd_same, few _ _ hl, _, rfl, k p _ ((sm.trans s2).over hp0) hp0 ?_⟩
      rw [upd_same, merge2_dkf _ _ (fun k hk => someOf_mem hN.some k hk)]
      rfl
end
end VF
set_option maxHeartbeats 4000000
/-! ## K. tiers -/
namespace VF
open PySem L2
/-! ### the heights in rising order, each once -/
def insU (x : Int) : List Int → List Int
  | [] => [x]
  | y :: r => if x < y then x :: y :: r else if x = y then y :: r else y :: insU x r
theorem mem_insU (x z : Int) : ∀ l : List Int, z ∈ insU x l ↔ z = x ∨ z ∈ l
  | [] => by simp [insU]
  | y :: r => by
    unfold insU
    by_cases h : x < y
    · rw [if_pos h, List.mem_cons]
    · rw [if_neg h]
      by_cases e : x = y
      · rw [if_pos e, List.mem_cons, e]
        constructor
        · exact .inr
        · rintro (q | q)
          · exact .inl q
          · exact q
      · rw [if_neg e, List.mem_cons, List.mem_cons, mem_insU x z r]
        constructor
        · rintro (q | q | q)
          · exact .inr (.inl q)
          · exact .inl q
          · exact .inr (.inr q)
        · rintro (q | q | q)
          · exact .inr (.inl q)
          · exact .inl q
          · exact .inr (.inr q)
theorem up_insU (x : Int) : ∀ l : List Int, l.Pairwise (· < ·) → (insU x l).Pairwise (· < ·)
  | [], _ => by simp [insU]
  | y :: r, h => by
    unfold insU
    have h1 := (List.pairwise_cons.mp h)
    by_cases c : x < y
    · rw [if_pos c]
      refine List.pairwise_cons.mpr ⟨fun z hz => ?_, h⟩
      rcases List.mem_cons.mp hz with rfl | hz
      · exact c
      · exact Int.lt_trans c (h1.1 z hz)
    · rw [if_neg c]
      by_cases e : x = y
      · rw [if_pos e]
        exact h
      · rw [if_neg e]
        refine List.pairwise_cons.mpr ⟨fun z hz => ?_, up_insU x r h1.2⟩
        rcases (mem_insU x z r).mp hz with rfl | hz
        · omega
        · exact h1.1 z hz
def stepsUp (os : List Str) (f : Str → Int) : List Int := os.foldr (fun x l => insU (f x) l) []
theorem mem_steps (f : Str → Int) (z : Int) : ∀ os : List Str, z ∈ stepsUp os f ↔ z ∈ os.map f
  | [] => by simp [stepsUp]
  | x :: r => by
    show z ∈ insU (f x) (stepsUp r f) ↔ _
    rw [mem_insU, mem_steps f z r, List.map_cons, List.mem_cons]
theorem up_steps (f : Str → Int) : ∀ os : List Str, (stepsUp os f).Pairwise (· < ·)
  | [] => List.Pairwise.nil
  | x :: r => up_insU (f x) _ (up_steps f r)
theorem up_unique : ∀ {l m : List Int}, l.Pairwise (· < ·) → m.Pairwise (· < ·) → (∀ z, z ∈ l ↔ z ∈ m) → l = m
  | [], [], _, _, _ => rfl
  | [], y :: r, _, _, h => absurd ((h y).mpr (List.mem_cons_self ..)) (by simp)
  | x :: r, [], _, _, h => absurd ((h x).mp (List.mem_cons_self ..)) (by simp)
  | x :: r, y :: t, h1, h2, h => by
    have p1 := List.pairwise_cons.mp h1
    have p2 := List.pairwise_cons.mp h2
    have e : x = y := by
      rcases List.mem_cons.mp ((h x).mp (List.mem_cons_self ..)) with q | q
      · exact q
      · rcases List.mem_cons.mp ((h y).mpr (List.mem_cons_self ..)) with q' | q'
        · exact q'.symm
        · have a1 := p2.1 x q
          have a2 := p1.1 y q'
          omega
    subst e
    rw [up_unique p1.2 p2.2 fun z => ?_]
    constructor
    · intro hz
      rcases List.mem_cons.mp ((h z).mp (List.mem_cons_of_mem _ hz)) with q | q
      · have a1 := p1.1 z hz
        omega
      · exact q
    · intro hz
      rcases List.mem_cons.mp ((h z).mpr (List.mem_cons_of_mem _ hz)) with q | q
      · have a1 := p2.1 z hz
        omega
      · exact q
/-- the options by tiers, the highest first -/
def tiersOf (os : List Str) (f : Str → Int) : List (List Str) := (stepsUp os f).reverse.map fun s => os.filter fun x => decide (f x = s)

/-! ### a set comprehension -/
section
variable {J : It} {G : Hp → Prop} {Y : Nat → Hp → V → Hp → Prop}
theorem sc_m {β : Type} (wd : World) (ds : List β) (fv : β → Int) (w : Walk J ds.length G Y) {g : TG} {te : TE} {vs : List Nat} {σ : St} {H1 : Hp} {D : Addr} {Qd : Hp → Prop} (hD : H1 D = none) (hn : ds.length ≤ 60)
    (hG : ∀ H, Same H1 H → G H)
    (hs : ∀ (i : Nat) (b : β) (x : V) (H H' : Hp), ds[i]? = some b → Same H1 H → Y i H x H' → Same H H' ∧ ∀ (A : V → Hp → Prop),
      (∀ H4, Same H' H4 → A (.int (fv b)) H4) → g x (wipe σ vs) H' fun σ2 H2 => wipe σ2 vs = wipe σ vs ∧ te σ2 H2 A)
    (hd : ∀ H c, Same H1 H → c ≤ ds.length → H D = some (SetO wd D (fun j => decide (j ∈ ds.map fv)) c) → Qd H) :
    ∃ W : Nat → Nat → Hp → Prop, (∃ m, W 0 m (upd H1 D (SetO wd D (fun _ => false) 0))) ∧ ∀ i m H, W i m H →
      (J.stop i H ∧ Qd H) ∨ (J.go i H ∧ ∃ Nx : Hp → Prop, (∀ H', Nx H' → ∃ m', m' < m ∧ W (i + 1) m' H') ∧ ∀ x H', J.yld i H x H' → g x (wipe σ vs) H' fun σ2 H2 => wipe σ2 vs = wipe σ vs ∧ tYes σ2 H2 fun b H3 =>
        if b = true then te σ2 H3 fun y H4 => ∃ (c : Int) (S : Int → Bool) (n : Nat), y = .int c ∧ H4 D = some (SetO wd D S n) ∧ n + 1 < PySem.scanBound ∧ Nx (upd H4 D (SetO wd D (fun j => S j || decide (j = c)) (if S c = true then n else n + 1))) else Nx H3) := by
  refine lc2_out w (fun i H => Same H1 H ∧ ∃ c, c ≤ i ∧ H D = some (SetO wd D (fun j => decide (j ∈ (ds.take i).map fv)) c)) ⟨L2.Same.put hD, 0, Nat.le_refl _, by rw [upd_same]; simp⟩ (fun i H _ h => hG H h.1) ?_ ?_
  · rintro i x H H' hi ⟨s, c, hc, hy⟩ y
    obtain ⟨s', k⟩ := hs i ds[i] x H H' (by simp [hi]) s y
    refine k _ fun H4 s4 => ⟨fv ds[i], _, c, rfl, s4 _ _ (s' _ _ hy), Nat.lt_of_le_of_lt (show c + 1 ≤ 61 by omega) (by decide), (s.trans (s'.trans s4)).over hD, ?_⟩
    refine ⟨if decide (fv ds[i] ∈ (ds.take i).map fv) = true then c else c + 1, by split <;> omega, ?_⟩
    rw [upd_same]
    have e : (fun j => decide (j ∈ (ds.take i).map fv) || decide (j = fv ds[i])) = fun j => decide (j ∈ (ds.take (i + 1)).map fv) := by
      funext j
      rw [List.take_succ_eq_append_getElem hi, List.map_append]
      simp only [List.mem_append, Bool.decide_or, List.map_cons, List.map_nil, List.mem_singleton]
    rw [e]
  · rintro H ⟨s, c, hc, hy⟩
    rw [List.take_length] at hy
    exact hd H c s hc hy
end
theorem dT_tiers (os : List Str) (f : Str → Int) : dT (tiersOf os f) = .tuple ((stepsUp os f).reverse.map fun s => dN (os.filter fun x => decide (f x = s))) := by
  unfold dT tiersOf
  rw [List.map_map]
  rfl
theorem filterMap_if {α β : Type} (p : α → Prop) [DecidablePred p] (g : α → β) : ∀ l : List α, l.filterMap (fun x => if p x then some (g x) else none) = (l.filter fun x => decide (p x)).map g
  | [] => rfl
  | x :: r => by
    rw [List.filterMap_cons, List.filter_cons]
    by_cases h : p x
    · simp [h, filterMap_if p g r]
    · simp [h, filterMap_if p g r]
theorem str_item {xs : List Str} {i : Nat} {z : V} {c : Str} (h1 : xs[i]? = some c) (h2 : (xs.map V.str)[i]? = some z) : z = .str c := by
  rw [List.getElem?_map, h1] at h2
  cases h2
  rfl
def spTiers (K : PySem.W.Frag) : Sp := fun vs H Q _ => ∃ o v b os, vs = [o, v] ∧ Dt K H o (dN os) ∧ Dt K H v (dB b) ∧ OkO os ∧ OkB os b ∧ ∀ v' H', Same H H' → Dt K H' v' (dT (tiersOf os (heightOf b))) → Q v' H'
def sc17b : Scope := { kind := .function, names := [(".0", .local), ("step", .cell), ("tuple", .globalImplicit), ("high", .free), ("options", .free)], isGenerator := false, isCoroutine := false }
section
variable {P : Program} {w : World} {K : PySem.W.Frag} {mg : Str → Option Value} {base : Heap}
theorem sc17 : FnScope ["options", "ballot", "high", "steps", "name", "step"] ["options", "ballot"] (defScope s17) := ⟨rfl, rfl, rfl, by decide +kernel, rfl, by decide +kernel, by decide +kernel⟩
theorem ok_tiers {f : Addr} {fd : FuncData} (F : Fun K "tiers" "tiers" s17 f fd) (B : Bt mg) (U : C8.Cal P w K mg base 1 "heights_of" (spHeights K) []) : FnOk P w K mg base CX0 2 f fd ["options", "ballot"] (spTiers K) := by
  refine F.ok sc17 (fun vs H Q E h => ?_) (fun cdv A outer s H vs Q E hr h => ?_)
  · obtain ⟨o, v, b, os, rfl, _⟩ := h
    rfl
  · obtain ⟨o, v, b, os, rfl, ho, hv, oo, ob, k⟩ := h
    obtain ⟨ao, rfl, hao⟩ := Dt.names_inv ho
    have los : os.length < sizeLine := Nat.lt_of_le_of_lt oo.most (by decide)
    refine ⟨_, pss_cons (ps_set (i := 2) sc17.nd rfl (Or.inr rfl) (C8.pe_c U hr (by decide) (by rfl) (pa_cons (pv 0) (pa_cons (pv 1) pa_nil))))
      (pss_cons (ps_set (i := 3) sc17.nd rfl (Or.inl rfl) (e_revL (K := K) (e_sortedSet (w := w) B.srt rfl (pe_scI (own := [("name", 4)]) rfl sc17.nd (i_tup (K := K) (pv 0)) (blkOk_by (N := ["options", "ballot", "high", "steps", "name", "step"]) (sc := defScope s17) (by decide +kernel))
        (fun _ _ _ _ _ => pg_name (i := 4) sc17.nd rfl (Or.inl rfl)) (fun _ _ _ _ _ => pts_nil) (fun _ _ _ _ _ => pe_dget (hu_of hr) (pv 2) (pv 4) (fun _ _ => rfl))))))
      (pss_one (ps_ret (e_tuple (K := K) B.tyTup (pe_lc (own := [("step", 5)]) rfl sc17.nd (i_list (K := K) (pv 3)) (blkOk_by (N := ["options", "ballot", "high", "steps", "name", "step"]) (sc := defScope s17) (by decide +kernel))
        (fun _ _ _ _ _ => pg_name (i := 5) sc17.nd rfl (Or.inr rfl)) (fun _ _ _ _ _ => pts_nil)
        (fun _ _ _ _ _ => e_tuple (K := K) B.tyTup (pe_lc (own := [("name", 4)]) rfl sc17.nd (i_tup (K := K) (pv 0)) (blkOk_by (N := ["options", "ballot", "high", "steps", "name", "step"]) (sc := relS sc17b (defScope s17)) (by decide +kernel))
          (fun _ _ _ _ _ => pg_name (i := 4) sc17.nd rfl (Or.inl rfl)) (fun _ _ _ _ _ => pts_one (pt_cmpR op_eq (pe_dget (hu_of hr) (pv 2) (pv 4) (fun _ _ => rfl)) (pv 5) (nomark _))) (fun _ _ _ _ _ => pv 4)))))))), ?_⟩
    refine ⟨_, rfl, _, rfl, .ref ao, v, b, os, rfl, ho, hv, oo, ob, fun p H1 sm hp0 hp => ?_⟩
    have get : ∀ {x : Str} {Hz : Hp}, x ∈ os → Same H1 Hz → DGet Hz p (.str x) (some (.int (heightOf b x))) := fun {x Hz} hx sz => by
      rw [← valV_dkf (os := os) hx]
      exact DGet.k (k := Sum.inr x) (sz _ _ hp)
    have hw : Walk (Itt K ao) os.length (fun H => SqT K H ao (os.map V.str)) (YAt (os.map V.str)) := by simpa using walk_tup (K := K) (a := ao) (xs := os.map V.str)
    refine ⟨_, rfl, ao, rfl, ⟨_, same_t sm hao⟩, fun D hD => sc_m w os (heightOf b) hw hD (Nat.le_trans oo.most (by decide)) (fun H2 s2 => same_t (sm.trans s2) hao) ?_ fun H2 c s2 hc hy => ⟨D, _, c, rfl, hy, Nat.lt_of_le_of_lt hc (Nat.lt_of_le_of_lt oo.most (by decide)), fun ns q up mem len hq => ?_⟩⟩
    · rintro i c x H2 H3 hc s2 ⟨rfl, hx⟩
      obtain rfl := str_item hc hx
      exact ⟨Same.refl _, fun A hA => ⟨rfl, _, rfl, _, rfl, p, _, rfl, get (List.mem_of_getElem? hc) s2, hA _ (Same.refl _)⟩⟩
    obtain rfl : ns = stepsUp os (heightOf b) := up_unique up (up_steps _ _) fun z => by
      rw [mem, mem_steps]
      exact decide_eq_true_iff
    have sq : Same H2 (upd H2 q (.lst ((stepsUp os (heightOf b)).map V.int))) := L2.Same.put hq
    refine rev_l (SqL.of upd_same) fun q2 H3 s3 hq2 => ?_
    rw [← List.map_reverse] at hq2
    have s13 := s2.trans (sq.trans s3)
    have lenS : (stepsUp os (heightOf b)).reverse.length < sizeLine := by
      rw [List.length_reverse, len]
      exact Nat.lt_of_le_of_lt hc los
    refine ⟨_, rfl, q2, rfl, ⟨_, SqL.of hq2⟩, fun D2 hD2 => lc_m (K := K) (stepsUp os (heightOf b)).reverse (fun s => dN (os.filter fun x => decide (heightOf b x = s))) (by have z := walk_list (K := K) (a := q2) (xs := (stepsUp os (heightOf b)).reverse.map V.int); rwa [List.length_map] at z) hD2 lenS (fun H4 s4 => s4.seq (SqL.of hq2)) ?_ fun H4 ys s4 hy4 hd4 => tup_d hy4 hd4 fun v' H5 s5 dv => k _ _ (sm.trans (s13.trans (s4.trans s5))) (by rw [dT_tiers]; exact dv)⟩
    rintro i st x H4 H5 hst s4 ⟨rfl, hx⟩
    obtain rfl : x = .int st := by
      rw [List.getElem?_map, hst] at hx
      cases hx
      rfl
    have s14 := s13.trans s4
    refine ⟨Same.refl _, fun A hA => ⟨rfl, _, rfl, ao, rfl, ⟨_, same_t (sm.trans s14) hao⟩, fun D3 hD3 => lc_d (K := K) os (fun x => if heightOf b x = st then some (PyData.str x) else none) hw hD3 los (fun H6 s6 => same_t ((sm.trans s14).trans s6) hao) ?_ fun H6 ys s6 hy6 hd6 => ?_⟩⟩
    · rintro j c x H6 H7 hc s6 ⟨rfl, hx⟩
      obtain rfl := str_item hc hx
      refine ⟨Same.refl _, fun A N hA hN => ⟨rfl, _, rfl, _, rfl, p, _, rfl, get (List.mem_of_getElem? hc) (s14.trans s6), _, rfl, rfl, _, rfl, ?_⟩⟩
      by_cases e : heightOf b c = st
      · exact ifD (by rw [e]) ⟨_, rfl, hA _ _ _ (by rw [if_pos e]) (Same.refl _) (.str c)⟩
      · rw [decide_eq_false (fun z => e (V.int.inj z))]
        exact iteF (hN _ (by rw [if_neg e]) (Same.refl _))
    · rw [filterMap_if] at hd6
      exact tup_d hy6 hd6 fun v' H8 s8 dv => hA _ _ (s6.trans s8) dv
end
end VF
set_option maxHeartbeats 4000000
/-! ## L. a ballot without others: ballot_without, _law_slip_cut -/
namespace VF
open PySem L2
abbrev s19 : Stmt := top 19
abbrev s44 : Stmt := top 44
/-- the ballot that tells of those alone -/
def cutB (ks : List Str) : Bal → Bal
  | .ord ts => .ord ((ts.map fun t => t.filter fun x => decide (x ∈ ks)).filter fun t => decide (t ≠ []))
  | .lets ns => .lets (ns.filter fun x => decide (x ∈ ks))
  | .marks ps => .marks (ps.filter fun p => decide (p.1 ∈ ks))
def spCut (K : PySem.W.Frag) : Sp := fun vs H Q _ => ∃ v n b ks os, vs = [v, n] ∧ Dt K H v (dB b) ∧ Nms K H n ks ∧ OkO os ∧ OkB os b ∧ ∀ v' H', Same H H' → Dt K H' v' (dB (cutB ks b)) → Q v' H'
theorem Nms.same {K : PySem.W.Frag} {H H' : Hp} {v : V} {xs : List Str} (s : Same H H') (h : Nms K H v xs) : Nms K H' v xs := by
  obtain ⟨a, e, h⟩ := h
  exact ⟨a, e, h.imp (fun z => s.seq z) fun z => same_t s z⟩
theorem real_dN (xs : List Str) : real (dN xs) = dN xs := by
  unfold dN
  rw [real, reals_map, List.map_map]
  rfl
def scLb : Scope := { kind := .function, names := [(".0", .local), ("tier", .local), ("tuple", .globalImplicit), ("names", .free)], isGenerator := false, isCoroutine := false }
def scLc : Scope := { kind := .function, names := [(".0", .local), ("_law_tier", .local), ("tuple", .globalImplicit), ("_law_some", .free)], isGenerator := false, isCoroutine := false }
section
variable {P : Program} {w : World} {K : PySem.W.Frag} {mg : Str → Option Value} {base : Heap}
theorem sc19 : FnScope ["ballot", "names", "word", "things", "cut", "name", "tier", "mark"] ["ballot", "names"] (defScope s19) := ⟨rfl, rfl, rfl, by decide +kernel, rfl, by decide +kernel, by decide +kernel⟩
theorem ok_without {f : Addr} {fd : FuncData} (F : Fun K "ballot_without" "ballot_without" s19 f fd) (B : Bt mg) : FnOk P w K mg base CX0 1 f fd ["ballot", "names"] (spCut K) := by
  refine F.ok sc19 (fun vs H Q E h => ?_) (fun cdv A outer s H vs Q E hr h => ?_)
  · obtain ⟨v, n, b, ks, os, rfl, _⟩ := h
    rfl
  · obtain ⟨v, n, b, ks, os, rfl, hv, ⟨an, rfl, hks⟩, oo, ob, k⟩ := h
    obtain ⟨a, x2, rfl, ha, h2⟩ := ball_inv hv
    have hks2 : ∀ {Hz : Hp}, Same H Hz → SqL K Hz an (ks.map V.str) ∨ SqT K Hz an (ks.map V.str) := fun s => hks.imp (fun z => s.seq z) fun z => same_t s z
    refine ⟨_, pss_cons (ps_asg (pv 0) (pg_tup (by rfl) (by exact pgs_cons (pg_name (i := 2) sc19.nd rfl (Or.inl rfl)) (pgs_cons (pg_name (i := 3) sc19.nd rfl (Or.inl rfl)) pgs_nil))))
      (pss_cons (ps_if (pt_cmpR op_eq (pv 2) pe_str (nomark _))
        (pss_cons (ps_setLc (i := 4) (own := [("tier", 6)]) rfl sc19.nd rfl rfl (sw_true rfl rfl rfl (by decide +kernel)) (i_tup (K := K) (pv 3)) (blkOk_by (N := ["ballot", "names", "word", "things", "cut", "name", "tier", "mark"]) (sc := defScope s19) (by decide +kernel))
          (fun _ _ _ _ _ => pg_name (i := 6) sc19.nd rfl (Or.inl rfl)) (fun _ _ _ _ _ => pts_nil)
          (fun _ _ _ _ _ => e_tuple (K := K) B.tyTup (pe_lc (own := [("name", 5)]) rfl sc19.nd (i_tup (K := K) (pv 6)) (blkOk_by (N := ["ballot", "names", "word", "things", "cut", "name", "tier", "mark"]) (sc := relS scLb (defScope s19)) (by decide +kernel))
            (fun _ _ _ _ _ => pg_name (i := 5) sc19.nd rfl (Or.inl rfl)) (fun _ _ _ _ _ => pts_one (pt_cmpR (o_in (K := K)) (pv 5) (pv 1) (by rfl))) (fun _ _ _ _ _ => pv 5))))
        (pss_one (ps_ret (pe_tup (pa_cons (pv 2) (pa_cons (e_tuple (K := K) B.tyTup (pe_lc (own := [("tier", 6)]) rfl sc19.nd (i_list (K := K) (pv 4)) (blkOk_by (N := ["ballot", "names", "word", "things", "cut", "name", "tier", "mark"]) (sc := defScope s19) (by decide +kernel))
          (fun _ _ _ _ _ => pg_name (i := 6) sc19.nd rfl (Or.inl rfl)) (fun _ _ _ _ _ => pts_one (pt_cmpR (o_ne (K := K) hr) (pv 6) (pe_tup pa_nil) (nomark _))) (fun _ _ _ _ _ => pv 6))) pa_nil))))))
        pss_nil)
      (pss_cons (ps_if (pt_cmpR op_eq (pv 2) pe_str (nomark _))
        (pss_one (ps_ret (pe_tup (pa_cons (pv 2) (pa_cons (e_tuple (K := K) B.tyTup (pe_lc (own := [("name", 5)]) rfl sc19.nd (i_tup (K := K) (pv 3)) (blkOk_by (N := ["ballot", "names", "word", "things", "cut", "name", "tier", "mark"]) (sc := defScope s19) (by decide +kernel))
          (fun _ _ _ _ _ => pg_name (i := 5) sc19.nd rfl (Or.inl rfl)) (fun _ _ _ _ _ => pts_one (pt_cmpR (o_in (K := K)) (pv 5) (pv 1) (by rfl))) (fun _ _ _ _ _ => pv 5))) pa_nil)))))
        pss_nil)
      (pss_one (ps_ret (pe_tup (pa_cons (pv 2) (pa_cons (e_tuple (K := K) B.tyTup (pe_lc (own := [("name", 5), ("mark", 7)]) rfl sc19.nd (i_tup (K := K) (pv 3)) (blkOk_by (N := ["ballot", "names", "word", "things", "cut", "name", "tier", "mark"]) (sc := defScope s19) (by decide +kernel))
          (fun _ _ _ _ _ => g_tup (K := K) (n := 2) rfl (by exact pgs_cons (pg_name (i := 5) sc19.nd rfl (Or.inl rfl)) (pgs_cons (pg_name (i := 7) sc19.nd rfl (Or.inl rfl)) pgs_nil))) (fun _ _ _ _ _ => pts_one (pt_cmpR (o_in (K := K)) (pv 5) (pv 1) (by rfl))) (fun _ _ _ _ _ => pe_tup (pa_cons (pv 5) (pa_cons (pv 7) pa_nil))))) pa_nil))))))), ?_⟩
    refine ⟨_, rfl, a, _, rfl, ha, rfl, _, _, rfl, _, _, rfl, rfl, ?_⟩
    refine ⟨_, rfl, rfl, _, rfl, ?_⟩
    have pick : ∀ {xs : List Str} {c : Addr}, SqT K H c (xs.map V.str) → xs.length < sizeLine → Walk (Itt K c) xs.length (fun H => SqT K H c (xs.map V.str)) (YAt (xs.map V.str)) := fun {xs c} _ _ => by
      have z := walk_tup (K := K) (a := c) (xs := xs.map V.str)
      rwa [List.length_map] at z
    cases ob with
    | @ord ts hN ne hm =>
      refine iteT ?_
      obtain ⟨a2, ys, rfl, ht, hd⟩ := h2.tup_inv
      have hlen := hd.length
      rw [List.length_map] at hlen
      have small : ∀ t ∈ ts, t.length < sizeLine := fun t ht => by
        obtain ⟨i, hi, rfl⟩ := List.mem_iff_getElem.mp ht
        have q := flat_le ts (i + 1)
        rw [flat_take (List.getElem?_eq_getElem hi), List.length_append] at q
        have q2 := hN.most
        exact Nat.lt_of_le_of_lt (show ts[i].length ≤ 100 by omega) (by decide)
      refine ⟨_, rfl, a2, rfl, ⟨_, ht⟩, fun D hD => lc_m (K := K) ts (fun t => dN (t.filter fun x => decide (x ∈ ks))) (hlen ▸ walk_tup (K := K) (a := a2) (xs := ys)) hD (Nat.lt_of_le_of_lt hm (by decide)) (fun H1 s1 => same_t s1 ht) ?_ fun H1 zs s1 hz1 hd1 => ?_⟩
      · rintro i t x H1 H2 hti s1 ⟨rfl, hx⟩
        obtain ⟨d, hd1, hd2⟩ := hd.get hx
        rw [List.getElem?_map, hti] at hd1
        cases hd1
        obtain ⟨b, rfl, hb⟩ := hd2.names_inv
        refine ⟨Same.refl _, fun A hA => ⟨rfl, _, rfl, b, rfl, ⟨_, same_t s1 hb⟩, fun D2 hD2 => lc_d (K := K) t (fun x => if x ∈ ks then some (PyData.str x) else none) (pick hb (small t (List.mem_of_getElem? hti))) hD2 (small t (List.mem_of_getElem? hti)) (fun H3 s3 => same_t (s1.trans s3) hb) ?_ fun H3 us s3 hu3 hd3 => ?_⟩⟩
        · rintro j c x H3 H4 hc s3 ⟨rfl, hx⟩
          obtain rfl := str_item hc hx
          refine ⟨Same.refl _, fun A N hA hN => ⟨rfl, _, rfl, _, rfl, in_s (hks2 (s1.trans s3)) ⟨_, rfl, ?_⟩⟩⟩
          by_cases e : c ∈ ks
          · exact ifD e ⟨_, rfl, hA _ _ _ (if_pos e) (Same.refl _) (.str c)⟩
          · rw [decide_eq_false e]
            exact iteF (hN _ (if_neg e) (Same.refl _))
        · rw [filterMap_if] at hd3
          exact tup_d hu3 hd3 fun v' H5 s5 dv => hA _ _ (s3.trans s5) dv
      · have hzl := hd1.length
        rw [List.length_map] at hzl
        refine ⟨_, rfl, _, rfl, D, rfl, ⟨_, SqL.of hz1⟩, fun D2 hD2 => lc_d (K := K) (ts.map fun t => t.filter fun x => decide (x ∈ ks)) (fun t => if t ≠ [] then some (dN t) else none) (by rw [List.length_map, ← hzl]; exact walk_list (K := K) (a := D) (xs := zs)) hD2 (by rw [List.length_map]; exact Nat.lt_of_le_of_lt hm (by decide)) (fun H2 s2 => s2.seq (SqL.of hz1)) ?_ fun H2 us s2 hu2 hd2 => ?_⟩
        · rintro i t x H2 H3 hti s2 ⟨rfl, hx⟩
          obtain ⟨d, hg1, hg2⟩ := hd1.get hx
          rw [List.getElem?_map] at hti hg1
          cases e0 : ts[i]? with
          | none =>
            rw [e0] at hti
            cases hti
          | some t0 =>
            rw [e0] at hti hg1
            cases hti
            cases hg1
            have sok : ∀ x ∈ t0.filter (fun x => decide (x ∈ ks)), PyData.strOk x = true := fun y hy => hN.sok oo y (List.mem_flatten.mpr ⟨t0, List.mem_of_getElem? e0, (List.mem_filter.mp hy).1⟩)
            refine ⟨Same.refl _, fun A N hA hN => ⟨rfl, _, rfl, Nat.zero_le _, fun p hp => ?_⟩⟩
            have sp : Same H3 (upd H3 p (.tup [])) := L2.Same.put hp
            refine ne_d ((hg2.same s2).same sp) (.new upd_same .nil) ((gd_dN sok).fit (by decide)) ((gd_tup (n := 0) (ds := []) fun _ h => nomatch h).fit (by decide)) (fun z => ?_) fun z => ?_
            · rw [real_dN] at z
              have e1 : t0.filter (fun x => decide (x ∈ ks)) = [] := by
                cases e2 : t0.filter (fun x => decide (x ∈ ks)) with
                | nil => rfl
                | cons y r =>
                  rw [e2] at z
                  cases z
              exact ⟨_, rfl, iteF (hN _ (if_neg fun h => h e1) sp)⟩
            · have e1 : t0.filter (fun x => decide (x ∈ ks)) ≠ [] := fun e2 => z (congrArg (fun u => real (dN u)) e2)
              exact ⟨_, rfl, iteT ⟨_, rfl, hA _ _ _ (if_pos e1) sp ((hg2.same s2).same sp)⟩⟩
        · rw [filterMap_if (fun t : List Str => t ≠ []) dN] at hd2
          refine tup_d hu2 hd2 fun v' H5 s5 dv => ⟨(by show 2 ≤ sizeLine; decide), fun p hp => k _ _ (s1.trans (s2.trans (s5.trans (L2.Same.put hp)))) (.new upd_same (.cons (.str _) (.cons (dv.same (L2.Same.put hp)) .nil)))⟩
    | @lets ns hN =>
      obtain ⟨b, rfl, hb⟩ := h2.names_inv
      have hsz : ns.length < sizeLine := Nat.lt_of_le_of_lt hN.most (by decide)
      refine iteF ⟨_, rfl, rfl, _, rfl, iteT ⟨_, rfl, _, rfl, b, rfl, ⟨_, hb⟩, fun D2 hD2 => lc_d (K := K) ns (fun x => if x ∈ ks then some (PyData.str x) else none) (pick hb hsz) hD2 hsz (fun H3 s3 => same_t s3 hb) ?_ fun H3 us s3 hu3 hd3 => ?_⟩⟩
      · rintro j c x H3 H4 hc s3 ⟨rfl, hx⟩
        obtain rfl := str_item hc hx
        refine ⟨Same.refl _, fun A N hA hN => ⟨rfl, _, rfl, _, rfl, in_s (hks2 s3) ⟨_, rfl, ?_⟩⟩⟩
        by_cases e : c ∈ ks
        · exact ifD e ⟨_, rfl, hA _ _ _ (if_pos e) (Same.refl _) (.str c)⟩
        · rw [decide_eq_false e]
          exact iteF (hN _ (if_neg e) (Same.refl _))
      · rw [filterMap_if] at hd3
        refine tup_d hu3 hd3 fun v' H5 s5 dv => ⟨(by show 2 ≤ sizeLine; decide), fun p hp => k _ _ (s3.trans (s5.trans (L2.Same.put hp))) (.new upd_same (.cons (.str _) (.cons (dv.same (L2.Same.put hp)) .nil)))⟩
    | @marks ps hN hm =>
      obtain ⟨a2, _, ys, rfl, _, _, ht, hd⟩ := h2.plain_inv
      have hlen := hd.length
      rw [List.length_map] at hlen
      have hl : ps.length ≤ 100 := by
        have q := hN.most
        rwa [List.length_map] at q
      refine iteF ⟨_, rfl, rfl, _, rfl, iteF ⟨_, rfl, _, rfl, a2, rfl, ⟨_, ht⟩, fun D2 hD2 => lc_d (K := K) ps (fun p => if p.1 ∈ ks then some (dP p) else none) (hlen ▸ walk_tup (K := K) (a := a2) (xs := ys)) hD2 (Nat.lt_of_le_of_lt hl (by decide)) (fun H3 s3 => same_t s3 ht) ?_ fun H3 us s3 hu3 hd3 => ?_⟩⟩
      · rintro i p x H2 H3 hp s2 ⟨rfl, hx⟩
        obtain ⟨d, hd1, hd2⟩ := hd.get hx
        rw [List.getElem?_map, hp] at hd1
        cases hd1
        obtain ⟨b, rfl, hb⟩ := pair_inv hd2
        refine ⟨Same.refl _, fun A N hA hN => ⟨b, _, rfl, same_t s2 hb, rfl, _, _, rfl, _, _, rfl, rfl, rfl, _, rfl, _, rfl, in_s (hks2 s2) ⟨_, rfl, ?_⟩⟩⟩
        by_cases e : p.1 ∈ ks
        · refine ifD e ⟨_, rfl, _, rfl, (by show 2 ≤ sizeLine; decide), fun q hq => hA _ _ _ (if_pos e) (L2.Same.put hq) (.new upd_same (.cons (.str _) (.cons (.int _) .nil)))⟩
        · rw [decide_eq_false e]
          exact iteF (hN _ (if_neg e) (Same.refl _))
      · rw [filterMap_if (fun p : Str × Int => p.1 ∈ ks) dP] at hd3
        refine tup_p hu3 hd3 fun v' H5 s5 dv => ⟨(by show 2 ≤ sizeLine; decide), fun p hp => k _ _ (s3.trans (s5.trans (L2.Same.put hp))) (.new upd_same (.cons (.str _) (.cons (dv.same (L2.Same.put hp)) .nil)))⟩
theorem sc44 : FnScope ["_law_slip", "_law_some", "_law_word", "_law_things", "_law_parted", "_law_name", "_law_tier", "_law_pair"] ["_law_slip", "_law_some"] (defScope s44) := ⟨rfl, rfl, rfl, by decide +kernel, rfl, by decide +kernel, by decide +kernel⟩
theorem ok_slipCut {f : Addr} {fd : FuncData} (F : Fun K "_law_slip_cut" "_law_slip_cut" s44 f fd) (B : Bt mg) : FnOk P w K mg base CX0 1 f fd ["_law_slip", "_law_some"] (spCut K) := by
  refine F.ok sc44 (fun vs H Q E h => ?_) (fun cdv A outer s H vs Q E hr h => ?_)
  · obtain ⟨v, n, b, ks, os, rfl, _⟩ := h
    rfl
  · obtain ⟨v, n, b, ks, os, rfl, hv, ⟨an, rfl, hks⟩, oo, ob, k⟩ := h
    obtain ⟨a, x2, rfl, ha, h2⟩ := ball_inv hv
    have hks2 : ∀ {Hz : Hp}, Same H Hz → SqL K Hz an (ks.map V.str) ∨ SqT K Hz an (ks.map V.str) := fun s => hks.imp (fun z => s.seq z) fun z => same_t s z
    refine ⟨_, pss_cons (ps_asg (pv 0) (pg_tup (by rfl) (by exact pgs_cons (pg_name (i := 2) sc44.nd rfl (Or.inl rfl)) (pgs_cons (pg_name (i := 3) sc44.nd rfl (Or.inl rfl)) pgs_nil))))
      (pss_cons (ps_if (pt_cmpR op_eq (pv 2) pe_str (nomark _))
        (pss_cons (ps_setLc (i := 4) (own := [("_law_tier", 6)]) rfl sc44.nd rfl rfl (sw_true rfl rfl rfl (by decide +kernel)) (i_tup (K := K) (pv 3)) (blkOk_by (N := ["_law_slip", "_law_some", "_law_word", "_law_things", "_law_parted", "_law_name", "_law_tier", "_law_pair"]) (sc := defScope s44) (by decide +kernel))
          (fun _ _ _ _ _ => pg_name (i := 6) sc44.nd rfl (Or.inl rfl)) (fun _ _ _ _ _ => pts_nil)
          (fun _ _ _ _ _ => e_tuple (K := K) B.tyTup (pe_lc (own := [("_law_name", 5)]) rfl sc44.nd (i_tup (K := K) (pv 6)) (blkOk_by (N := ["_law_slip", "_law_some", "_law_word", "_law_things", "_law_parted", "_law_name", "_law_tier", "_law_pair"]) (sc := relS scLc (defScope s44)) (by decide +kernel))
            (fun _ _ _ _ _ => pg_name (i := 5) sc44.nd rfl (Or.inl rfl)) (fun _ _ _ _ _ => pts_one (pt_cmpR (o_in (K := K)) (pv 5) (pv 1) (by rfl))) (fun _ _ _ _ _ => pv 5))))
        (pss_one (ps_ret (pe_tup (pa_cons (pv 2) (pa_cons (e_tuple (K := K) B.tyTup (pe_lc (own := [("_law_tier", 6)]) rfl sc44.nd (i_list (K := K) (pv 4)) (blkOk_by (N := ["_law_slip", "_law_some", "_law_word", "_law_things", "_law_parted", "_law_name", "_law_tier", "_law_pair"]) (sc := defScope s44) (by decide +kernel))
          (fun _ _ _ _ _ => pg_name (i := 6) sc44.nd rfl (Or.inl rfl)) (fun _ _ _ _ _ => pts_one (pt_cmpR (o_ne (K := K) hr) (pv 6) (pe_tup pa_nil) (nomark _))) (fun _ _ _ _ _ => pv 6))) pa_nil))))))
        pss_nil)
      (pss_cons (ps_if (pt_cmpR op_eq (pv 2) pe_str (nomark _))
        (pss_one (ps_ret (pe_tup (pa_cons (pv 2) (pa_cons (e_tuple (K := K) B.tyTup (pe_lc (own := [("_law_name", 5)]) rfl sc44.nd (i_tup (K := K) (pv 3)) (blkOk_by (N := ["_law_slip", "_law_some", "_law_word", "_law_things", "_law_parted", "_law_name", "_law_tier", "_law_pair"]) (sc := defScope s44) (by decide +kernel))
          (fun _ _ _ _ _ => pg_name (i := 5) sc44.nd rfl (Or.inl rfl)) (fun _ _ _ _ _ => pts_one (pt_cmpR (o_in (K := K)) (pv 5) (pv 1) (by rfl))) (fun _ _ _ _ _ => pv 5))) pa_nil)))))
        pss_nil)
      (pss_one (ps_ret (pe_tup (pa_cons (pv 2) (pa_cons (e_tuple (K := K) B.tyTup (pe_lc (own := [("_law_pair", 7)]) rfl sc44.nd (i_tup (K := K) (pv 3)) (blkOk_by (N := ["_law_slip", "_law_some", "_law_word", "_law_things", "_law_parted", "_law_name", "_law_tier", "_law_pair"]) (sc := defScope s44) (by decide +kernel))
          (fun _ _ _ _ _ => pg_name (i := 7) sc44.nd rfl (Or.inl rfl)) (fun _ _ _ _ _ => pts_one (pt_cmpR (o_in (K := K)) (pe_ix (ix_t (K := K)) (pv 7) pe_int (fun _ _ => rfl)) (pv 1) (by rfl))) (fun _ _ _ _ _ => pv 7))) pa_nil))))))), ?_⟩
    refine ⟨_, rfl, a, _, rfl, ha, rfl, _, _, rfl, _, _, rfl, rfl, ?_⟩
    refine ⟨_, rfl, rfl, _, rfl, ?_⟩
    have pick : ∀ {xs : List Str} {c : Addr}, SqT K H c (xs.map V.str) → xs.length < sizeLine → Walk (Itt K c) xs.length (fun H => SqT K H c (xs.map V.str)) (YAt (xs.map V.str)) := fun {xs c} _ _ => by
      have z := walk_tup (K := K) (a := c) (xs := xs.map V.str)
      rwa [List.length_map] at z
    cases ob with
    | @ord ts hN ne hm =>
      refine iteT ?_
      obtain ⟨a2, ys, rfl, ht, hd⟩ := h2.tup_inv
      have hlen := hd.length
      rw [List.length_map] at hlen
      have small : ∀ t ∈ ts, t.length < sizeLine := fun t ht => by
        obtain ⟨i, hi, rfl⟩ := List.mem_iff_getElem.mp ht
        have q := flat_le ts (i + 1)
        rw [flat_take (List.getElem?_eq_getElem hi), List.length_append] at q
        have q2 := hN.most
        exact Nat.lt_of_le_of_lt (show ts[i].length ≤ 100 by omega) (by decide)
      refine ⟨_, rfl, a2, rfl, ⟨_, ht⟩, fun D hD => lc_m (K := K) ts (fun t => dN (t.filter fun x => decide (x ∈ ks))) (hlen ▸ walk_tup (K := K) (a := a2) (xs := ys)) hD (Nat.lt_of_le_of_lt hm (by decide)) (fun H1 s1 => same_t s1 ht) ?_ fun H1 zs s1 hz1 hd1 => ?_⟩
      · rintro i t x H1 H2 hti s1 ⟨rfl, hx⟩
        obtain ⟨d, hd1, hd2⟩ := hd.get hx
        rw [List.getElem?_map, hti] at hd1
        cases hd1
        obtain ⟨b, rfl, hb⟩ := hd2.names_inv
        refine ⟨Same.refl _, fun A hA => ⟨rfl, _, rfl, b, rfl, ⟨_, same_t s1 hb⟩, fun D2 hD2 => lc_d (K := K) t (fun x => if x ∈ ks then some (PyData.str x) else none) (pick hb (small t (List.mem_of_getElem? hti))) hD2 (small t (List.mem_of_getElem? hti)) (fun H3 s3 => same_t (s1.trans s3) hb) ?_ fun H3 us s3 hu3 hd3 => ?_⟩⟩
        · rintro j c x H3 H4 hc s3 ⟨rfl, hx⟩
          obtain rfl := str_item hc hx
          refine ⟨Same.refl _, fun A N hA hN => ⟨rfl, _, rfl, _, rfl, in_s (hks2 (s1.trans s3)) ⟨_, rfl, ?_⟩⟩⟩
          by_cases e : c ∈ ks
          · exact ifD e ⟨_, rfl, hA _ _ _ (if_pos e) (Same.refl _) (.str c)⟩
          · rw [decide_eq_false e]
            exact iteF (hN _ (if_neg e) (Same.refl _))
        · rw [filterMap_if] at hd3
          exact tup_d hu3 hd3 fun v' H5 s5 dv => hA _ _ (s3.trans s5) dv
      · have hzl := hd1.length
        rw [List.length_map] at hzl
        refine ⟨_, rfl, _, rfl, D, rfl, ⟨_, SqL.of hz1⟩, fun D2 hD2 => lc_d (K := K) (ts.map fun t => t.filter fun x => decide (x ∈ ks)) (fun t => if t ≠ [] then some (dN t) else none) (by rw [List.length_map, ← hzl]; exact walk_list (K := K) (a := D) (xs := zs)) hD2 (by rw [List.length_map]; exact Nat.lt_of_le_of_lt hm (by decide)) (fun H2 s2 => s2.seq (SqL.of hz1)) ?_ fun H2 us s2 hu2 hd2 => ?_⟩
        · rintro i t x H2 H3 hti s2 ⟨rfl, hx⟩
          obtain ⟨d, hg1, hg2⟩ := hd1.get hx
          rw [List.getElem?_map] at hti hg1
          cases e0 : ts[i]? with
          | none =>
            rw [e0] at hti
            cases hti
          | some t0 =>
            rw [e0] at hti hg1
            cases hti
            cases hg1
            have sok : ∀ x ∈ t0.filter (fun x => decide (x ∈ ks)), PyData.strOk x = true := fun y hy => hN.sok oo y (List.mem_flatten.mpr ⟨t0, List.mem_of_getElem? e0, (List.mem_filter.mp hy).1⟩)
            refine ⟨Same.refl _, fun A N hA hN => ⟨rfl, _, rfl, Nat.zero_le _, fun p hp => ?_⟩⟩
            have sp : Same H3 (upd H3 p (.tup [])) := L2.Same.put hp
            refine ne_d ((hg2.same s2).same sp) (.new upd_same .nil) ((gd_dN sok).fit (by decide)) ((gd_tup (n := 0) (ds := []) fun _ h => nomatch h).fit (by decide)) (fun z => ?_) fun z => ?_
            · rw [real_dN] at z
              have e1 : t0.filter (fun x => decide (x ∈ ks)) = [] := by
                cases e2 : t0.filter (fun x => decide (x ∈ ks)) with
                | nil => rfl
                | cons y r =>
                  rw [e2] at z
                  cases z
              exact ⟨_, rfl, iteF (hN _ (if_neg fun h => h e1) sp)⟩
            · have e1 : t0.filter (fun x => decide (x ∈ ks)) ≠ [] := fun e2 => z (congrArg (fun u => real (dN u)) e2)
              exact ⟨_, rfl, iteT ⟨_, rfl, hA _ _ _ (if_pos e1) sp ((hg2.same s2).same sp)⟩⟩
        · rw [filterMap_if (fun t : List Str => t ≠ []) dN] at hd2
          refine tup_d hu2 hd2 fun v' H5 s5 dv => ⟨(by show 2 ≤ sizeLine; decide), fun p hp => k _ _ (s1.trans (s2.trans (s5.trans (L2.Same.put hp)))) (.new upd_same (.cons (.str _) (.cons (dv.same (L2.Same.put hp)) .nil)))⟩
    | @lets ns hN =>
      obtain ⟨b, rfl, hb⟩ := h2.names_inv
      have hsz : ns.length < sizeLine := Nat.lt_of_le_of_lt hN.most (by decide)
      refine iteF ⟨_, rfl, rfl, _, rfl, iteT ⟨_, rfl, _, rfl, b, rfl, ⟨_, hb⟩, fun D2 hD2 => lc_d (K := K) ns (fun x => if x ∈ ks then some (PyData.str x) else none) (pick hb hsz) hD2 hsz (fun H3 s3 => same_t s3 hb) ?_ fun H3 us s3 hu3 hd3 => ?_⟩⟩
      · rintro j c x H3 H4 hc s3 ⟨rfl, hx⟩
        obtain rfl := str_item hc hx
        refine ⟨Same.refl _, fun A N hA hN => ⟨rfl, _, rfl, _, rfl, in_s (hks2 s3) ⟨_, rfl, ?_⟩⟩⟩
        by_cases e : c ∈ ks
        · exact ifD e ⟨_, rfl, hA _ _ _ (if_pos e) (Same.refl _) (.str c)⟩
        · rw [decide_eq_false e]
          exact iteF (hN _ (if_neg e) (Same.refl _))
      · rw [filterMap_if] at hd3
        refine tup_d hu3 hd3 fun v' H5 s5 dv => ⟨(by show 2 ≤ sizeLine; decide), fun p hp => k _ _ (s3.trans (s5.trans (L2.Same.put hp))) (.new upd_same (.cons (.str _) (.cons (dv.same (L2.Same.put hp)) .nil)))⟩
    | @marks ps hN hm =>
      obtain ⟨a2, _, ys, rfl, _, _, ht, hd⟩ := h2.plain_inv
      have hlen := hd.length
      rw [List.length_map] at hlen
      have hl : ps.length ≤ 100 := by
        have q := hN.most
        rwa [List.length_map] at q
      refine iteF ⟨_, rfl, rfl, _, rfl, iteF ⟨_, rfl, _, rfl, a2, rfl, ⟨_, ht⟩, fun D2 hD2 => lc_d (K := K) ps (fun p => if p.1 ∈ ks then some (dP p) else none) (hlen ▸ walk_tup (K := K) (a := a2) (xs := ys)) hD2 (Nat.lt_of_le_of_lt hl (by decide)) (fun H3 s3 => same_t s3 ht) ?_ fun H3 us s3 hu3 hd3 => ?_⟩⟩
      · rintro i p x H2 H3 hp s2 ⟨rfl, hx⟩
        obtain ⟨d, hd1, hd2⟩ := hd.get hx
        rw [List.getElem?_map, hp] at hd1
        cases hd1
        obtain ⟨b, rfl, hb⟩ := pair_inv hd2
        refine ⟨Same.refl _, fun A N hA hN => ⟨rfl, _, rfl, b, _, _, .str p.1, rfl, rfl, same_t s2 hb, rfl, _, rfl, in_s (hks2 s2) ⟨_, rfl, ?_⟩⟩⟩
        by_cases e : p.1 ∈ ks
        · exact ifD e ⟨_, rfl, hA _ _ _ (if_pos e) (Same.refl _) (hd2.same s2)⟩
        · rw [decide_eq_false e]
          exact iteF (hN _ (if_neg e) (Same.refl _))
      · rw [filterMap_if (fun p : Str × Int => p.1 ∈ ks) dP] at hd3
        refine tup_p hu3 hd3 fun v' H5 s5 dv => ⟨(by show 2 ≤ sizeLine; decide), fun p hp => k _ _ (s3.trans (s5.trans (L2.Same.put hp))) (.new upd_same (.cons (.str _) (.cons (dv.same (L2.Same.put hp)) .nil)))⟩
end
end VF
set_option maxHeartbeats 4000000
/-! ## M. an own error over KeyError -/
namespace VF
open PySem L2
abbrev keTail : List Value := [.type "KeyError", .type "LookupError", .type "Exception", .type "BaseException", .type "object"]
abbrev keN : String := "LookupError.__new__"
abbrev keI : String := "KeyError.__init__"
theorem ke_newEntry : entryFor table keN = some Builtin.«BaseException.__new__» := PyProof.Rows.excClass_KeyError.newEntry
theorem ke_newSplit : splitId keN = some ("LookupError", "__new__") := by kernel_rfl
theorem ke_newKind : builtinKind keN = some .builtinFn := by kernel_rfl
theorem ke_newRow : Manifest.signature? keN = some ⟨.any, "LookupError", "LookupError", .cls, [⟨"args", .varPos, false⟩, ⟨"kwargs", .varKw, false⟩]⟩ := by kernel_rfl
theorem ke_canon : Manifest.canonical keN = Manifest.canonical "BaseException.__new__" := by decide +kernel
theorem ke_quiet : keN.startsWith "lifetime." = false := by decide +kernel
theorem ke_ends : keN.endsWith ".__new__" = true := by decide +kernel
theorem ke_owner : keN.dropRight 8 = "LookupError" := by decide +kernel
theorem ke_star : ("LookupError" != "*") = true := by decide +kernel
theorem ke_star2 : ("KeyError" != "*") = true := by decide +kernel
theorem ke_initSplit : splitId keI = some ("KeyError", "__init__") := by kernel_rfl
theorem ke_initKind : builtinKind keI = some .slot := by kernel_rfl
theorem ke_initRow : Manifest.signature? keI = some ⟨.positional, "*", "KeyError", .self, [⟨"args", .varPos, false⟩]⟩ := by kernel_rfl
theorem ke_initEntry : entryFor table keI = some Builtin.«BaseException.__init__» := PyProof.Rows.excClass_KeyError.initEntry
open Builtin Builtin.ObjectAttr in
theorem ke_pass (self : Value) : PySem.refuseLoop self "__setattr__" keTail = pure () := by kernel_rfl
theorem ke_typ : typeOf (.type "KeyError") = pure (.type "type") := by kernel_rfl

section
open Builtin Builtin.ObjectAttr PySem.HandSPX
variable {M : Model} {A : Around} {E : Value → Shared → Prop} {h : Heap} {g : Array GenState} {d : Drawn} {t : Nat} {os : OsState}
variable {nm q : Str} {C N : Addr} {bs : List Value} {hdct : Bool} {sn : List Str} {sub : List Value} {ab : Bool} {col : Option Bool} {dd : Option Addr} {k0 k1 k2 k3 k5 : Option Value}
theorem ke_check_new {rest : List Value} {Q : Unit → Shared → Prop}
    (hC : h.get? C = some (excClassObj nm q C N bs keTail hdct sn sub ab col dd k0 k1 k2 k3 k5 keN)) (hq : Q () ⟨h, g, d, t, os⟩) : wpAny M A (checkBuiltinCall keN ⟨.ref C :: rest, []⟩) Q E ⟨h, g, d, t, os⟩ := by
  have hcont : (Value.ref C :: keTail).contains (.type "LookupError") = true := by rw [List.contains_cons]; rfl
  have hstar := ke_star
  simp only [checkBuiltinCall, ke_newKind, ke_newSplit, ke_newRow]
  repeat (first | refine wpAny_loadPart_at hC ?_ | (refine wpAny_isSubtype_exc hC ?_; rw [hcont]) | refine wpAny_staticBase_exc hC ?_ | refine wpAny_madeBy_exc hC ?_ | simp only [bne_self_eq_false, Bool.false_eq_true, if_false] | wp_step)
  exact hq
theorem ke_check_init {e : Addr} {oe : Obj} {rest : List Value} {Q : Unit → Shared → Prop}
    (hC : h.get? C = some (excClassObj nm q C N bs keTail hdct sn sub ab col dd k0 k1 k2 k3 k5 keN)) (he : h.get? e = some oe) (hcls : oe.cls = .ref C) (hq : Q () ⟨h, g, d, t, os⟩) :
    wpAny M A (checkBuiltinCall keI ⟨.ref e :: rest, []⟩) Q E ⟨h, g, d, t, os⟩ := by
  have hcB : (Value.ref C :: keTail).contains (.type "KeyError") = true := by rw [List.contains_cons]; rfl
  have hshort := ke_star2
  simp only [checkBuiltinCall, ke_initKind, ke_initSplit, ke_initRow]
  repeat (first | (with_reducible refine wpAny_loadPart_at he ?_; rw [hcls]) | with_reducible refine wpAny_loadPart_at hC ?_ | (with_reducible refine wpAny_isSubtype_exc hC ?_; rw [hcB]) | wp_step)
  refine wpAny_onRaise ?_
  rw [show ∀ (a b : String) (n : Nat), Bind.check ⟨.positional, "*", "KeyError", .self, [⟨"args", .varPos, false⟩]⟩ a b n (List.map (fun x => x.fst) ({ pos := Value.ref e :: rest } : Args).kw) = pure () from
    fun a b n => check_star_args _ _ _ _ _ _]
  exact wpAny_pure hq
end
section
open Builtin Builtin.ObjectAttr PySem.HandSPX
variable {prog : Program} {w : World} {A : Around} {E : Value → Shared → Prop} {R : Result → Shared → Prop} {h : Heap} {g : Array GenState} {d : Drawn} {t : Nat} {os : OsState}
variable {nm q : Str} {C N : Addr} {bs : List Value} {hdct : Bool} {sn : List Str} {sub : List Value} {ab : Bool} {col : Option Bool} {dd : Option Addr} {k0 k1 k2 k3 k5 : Option Value}
theorem ke_new {rest : List Value}
    (hC : h.get? C = some (excClassObj nm q C N bs keTail hdct sn sub ab col dd k0 k1 k2 k3 k5 keN))
    (hq : R (.ok (.ret (.ref (h.objs.size + 1)))) ⟨(h.push { cls := .type "tuple", data := .seq rest.toArray }).push
      { cls := .ref C, data := .fields #[.ref h.objs.size, .none, .none, .none, .bool false, .none] }, g, d, t, os⟩) (hrest : rest.length ≤ sizeLine) :
    codeAny (model prog w) A (.builtin keN ⟨.ref C :: rest, []⟩) R ⟨h, g, d, t, os⟩ := by
  have hends := ke_ends
  have hcB : (Value.ref C :: keTail).contains (.type "LookupError") = true := by rw [List.contains_cons]; rfl
  have hcA : (Value.ref C :: keTail).contains (.type "AttributeError") = false := by rw [List.contains_cons]; rfl
  have hcN : (Value.ref C :: keTail).contains (.type "NameError") = false := by rw [List.contains_cons]; rfl
  refine codeAny_builtinAt ke_newEntry ?_
  unfold Builtin.«BaseException.__new__»
  refine wpAt_bind ?_
  show wpAt _ _ _ (stack >>= _) _ _ _
  refine wpAt_bind (wpAt_stack fun p below => wpAt_of_wpAny ?_)
  wp_walk
  refine wpAt_of_wpAny ?_
  rw [ke_owner]
  repeat (first | with_reducible refine wpAny_madeHere_exc ke_canon hC ?_ | with_reducible refine wpAny_loadPart_at hC ?_ | (with_reducible refine wpAny_isSubtype_exc hC ?_; first | rw [hcB] | rw [hcA] | rw [hcN]) | wp_step)
  show R _ _
  rw [Heap.size_push]
  exact hq
theorem ke_type_call {rest : List Value} {fI : Addr} {Q : Fin → Shared → Prop}
    (hC : h.get? C = some (excClassObj nm q C N bs keTail hdct sn sub ab col dd k0 k1 k2 k3 k5 keN))
    (hi : W.Looks (model prog w) h (typeLookup (.ref C) "__init__") (some (.ref fI))) (hb : ∀ self, W.Looks (model prog w) h (bindSpecial (.ref fI) self) (.ref fI, [self])) (hrest : rest.length ≤ sizeLine)
    (hq : codeAny (model prog w) A (.call (.ref fI) ⟨.ref (h.objs.size + 1) :: rest, []⟩)
      (fun r s' => match r with | .ok (.ret v) => v = .none ∧ Q (.done (.ret (.ref (h.objs.size + 1)))) s' | .ok _ => False | .error e => E e s')
      ⟨(h.push (W.kdv_tup rest)).push (excO C h.objs.size), g, d, t, os⟩) :
    wpAny (model prog w) A (Builtin.«type.__call__» ⟨.ref C :: rest, []⟩) Q E ⟨h, g, d, t, os⟩ := by
  repeat (first | with_reducible refine wpAny_loadPart_at hC ?_ | with_reducible refine wpAny_madeBy_exc hC ?_ | wp_step)
  refine codeAny_call_builtin_code (Code.quiet_builtin _ ke_quiet) (ke_check_new hC ?_)
  refine ke_new hC ?_ hrest
  show wpAny _ _ _ _ _ _
  have k : ∀ b o, h.get? b = some o → ((h.push (W.kdv_tup rest)).push (excO C h.objs.size)).get? b = some o := fun b o e => Heap.get?_push_of_some _ (Heap.get?_push_of_some _ e)
  have hC₁ := k _ _ hC
  have hget : ((h.push (W.kdv_tup rest)).push (excO C h.objs.size)).get? (h.objs.size + 1) = some (excO C h.objs.size) := by heap_get
  have hcC : (Value.ref C :: keTail).contains (.ref C) = true := by simp
  have i1 := hi.keeps k
  have b1 := (hb (.ref (h.objs.size + 1))).keeps k
  unfold isInstance
  repeat (first | with_reducible refine wpAny_loadPart_at hget ?_ | (with_reducible refine wpAny_isSubtype_exc hC₁ ?_; rw [hcC]) | wp_step)
  show wpAny _ _ (typeLookup (.ref C) _) _ _ _
  refine i1.at ?_
  refine wpAny_holding (wpAny_bind (b1.at ?_))
  refine wpAny_bind (wpAny_call (codeAny_mono hq fun r s' z => ?_))
  rcases r with e | (v | _ | _ | _) <;> first | exact z | exact z.elim | skip
  obtain ⟨rfl, z⟩ := z
  first
    | exact wpAny_pure (wpAny_pure z)
    | (wp_walk; exact z)
theorem ke_call {rest : List Value} {fI : Addr}
    (hC : h.get? C = some (excClassObj nm q C N bs keTail hdct sn sub ab col dd k0 k1 k2 k3 k5 keN))
    (hi : W.Looks (model prog w) h (typeLookup (.ref C) "__init__") (some (.ref fI))) (hb : ∀ self, W.Looks (model prog w) h (bindSpecial (.ref fI) self) (.ref fI, [self])) (hrest : rest.length ≤ sizeLine)
    (hq : codeAny (model prog w) (A.under (.builtin "type.__call__" ⟨.ref C :: rest, []⟩)) (.call (.ref fI) ⟨.ref (h.objs.size + 1) :: rest, []⟩) (W.InitBack (h.objs.size + 1) R)
      ⟨(h.push (W.kdv_tup rest)).push (excO C h.objs.size), g, d, t, os⟩) :
    codeAny (model prog w) A (.call (.ref C) ⟨rest, []⟩) R ⟨h, g, d, t, os⟩ := by
  have f1 := tc_lookup
  have f2 := tc_bind (.ref C)
  have hTy : (⟨h, g, d, t, os⟩ : Shared).TypeIs (.ref C) "type" := ⟨_, hC, rfl⟩
  refine codeAny_of_tree ?_
  show wpAny _ _ (callAny (.ref C) _) _ _ _
  repeat (any_goals (first | assumption | with_reducible refine wpAny_loadPart_at hC ?_ | wp_step))
  refine ⟨rfl, ?_⟩
  refine codeAny_call_builtin_at (Code.quiet_builtin _ (by decide +kernel)) entry_typeCall (wpAny_check_type_call_sub hC (ke_type_call hC hi hb hrest ?_))
  refine codeAny_mono hq fun r s' z => ?_
  rcases r with e | (v | _ | _ | _) <;> exact z
theorem ke_init {e t0 : Addr} {rest : List Value}
    (hC : h.get? C = some (excClassObj nm q C N bs keTail hdct sn sub ab col dd k0 k1 k2 k3 k5 keN)) (he : h.get? e = some (excO C t0)) (hrest : rest.length ≤ sizeLine)
    (hq : ∀ h' t1, (∀ b o, b ≠ e → h.get? b = some o → h'.get? b = some o) → h'.get? e = some (excO C t1) → R (.ok (.ret .none)) ⟨h', g, d, t, os⟩) :
    codeAny (model prog w) A (.call (.builtin keI) ⟨.ref e :: rest, []⟩) R ⟨h, g, d, t, os⟩ := by
  refine codeAny_call_builtin PyProof.Rows.excClass_KeyError.init.plain ke_initEntry (ke_check_init hC he rfl ?_)
  wp_walk
  refine hq _ h.objs.size (fun b o hb ho => ?_) ?_
  · rw [Heap.get?_update_other _ _ (Ne.symm hb)]
    exact Heap.get?_push_of_some _ ho
  · rw [Heap.get?_update_self _ (Heap.get?_push_of_some _ he) rfl]
    rfl
variable {hp : Heap}
theorem ke_osa {K : W.Frag} {name : Str} {tk : Tok} {v : Value} {x C : Addr} {fv : Array Value} {cd : ClassData}
    (X : K.In hp) (hx : hp.get? x = some { cls := .ref C, data := .fields fv }) (hcd : W.clsIn K C = some cd) (hm : cd.mro = .ref C :: keTail) (hh : cd.hasDict = true) (ha : W.findIn K (.ref C) name = some none)
    (hq : ∀ h' tk' dx, (∀ b o, b ≠ x → hp.get? b = some o → h'.get? b = some o) → hp.objs.size ≤ dx → dx ≠ x → h'.get? x = some { cls := .ref C, dict := some dx, data := .fields fv } →
      h'.Ns1 dx (fun y => if y = name then some v else none) → R (.ok (.ret .none)) ⟨h', g, d, tk', os⟩) :
    codeAny (model prog w) A (.call (.builtin "object.__setattr__") ⟨[.ref x, .str name tk, v], []⟩) R ⟨hp, g, d, t, os⟩ := by
  have I : W.InstAt hp x { cls := .ref C, data := .fields fv } C none := ⟨hx, rfl, rfl, trivial⟩
  have SF := F.store_object
  have ne : cd.mro.isEmpty = false := by rw [hm]; rfl
  have hob : cd.mro.contains (.type "object") = true := by rw [hm, List.contains_cons]; rfl
  have hps : PySem.refuseLoop (.ref x) "__setattr__" cd.mro = pure () := by rw [hm, PySem.refuseLoop_ref]; exact ke_pass _
  have hxs : x ≠ hp.objs.size := Nat.ne_of_lt (Heap.lt_size hx)
  have sub : W.Looks (model prog w) hp (isInstance (.ref x) (.type "object")) true := I.type.andThen (W.looks_mroIn X (by unfold W.mroIn; rw [hcd, Option.bind_some, if_neg (by rw [ne]; decide), hob]))
  refine codeAny_call_builtin SF.slot.plain SF.entry (@W.check_slot (model prog w) _ _ ⟨hp, g, d, t, os⟩ "object.__setattr__" "object" "__setattr__" (.ref x) [.str name tk, v] [] _ SF.kind SF.split sub (SF.args (.ref x) (.str name tk) v) ?_)
  have hmr : W.Looks (model prog w) hp (mroOf (.ref C)) cd.mro := (W.looks_clsIn X hcd).andThen .now
  have L3 : W.Looks (model prog w) hp (storeTaker? none) none := .now
  have hcls : W.Looks (model prog w) hp (classData C) cd := W.looks_clsIn X hcd
  rw [W.osa_eq, refuse_eq]
  refine wpAny_bind (wpAny_bind (I.type.at (wpAny_bind (hmr.at ?_))))
  rw [hps]
  refine wpAny_pure (wpAny_bind (I.type.at (wpAny_bind ((W.looks_findIn X ha).at (wpAny_bind (L3.at ?_))))))
  show wpAny _ _ (storeInOwnDict (.ref x) (.ref C) (.str name tk) name v false) _ _ _
  obtain ⟨nm, bs, mro, ns, qn, hd, sn, sb, ab, col, del⟩ := cd
  dsimp only at hh
  subst hh
  unfold storeInOwnDict ownDictForStores
  repeat (first | with_reducible refine store_in_new ?_ ?_ | with_reducible refine wpAny_loadPart_at hx ?_ | with_reducible refine hcls.at ?_ | wp_step)
  · exact ⟨_, #[], _, (Heap.get?_update_ne _ _ _ _ hxs.symm).trans (Heap.get?_push_at rfl rfl), rfl, fun e he => absurd he (by simp), fun _ => rfl⟩
  · intro h' tk' hn' hs
    have hx₁ : (hp.push { cls := .type "dict", data := .dict #[] }).get? x = some { cls := .ref C, data := .fields fv } := Heap.get?_push_of_some _ hx
    refine hq h' tk' hp.objs.size (fun b o hb ho => ?_) (Nat.le_refl _) hxs.symm ?_ hn'
    · exact (hs.2 b (Nat.ne_of_lt (Heap.lt_size ho))).trans ((Heap.get?_update_ne _ _ _ _ hb).trans (Heap.get?_push_of_some _ ho))
    · exact (hs.2 x hxs).trans (Heap.get?_update_self _ hx₁ rfl)
end
end VF
set_option maxHeartbeats 4000000
/-! ## N. rules for an own error over KeyError -/
namespace VF
open PySem PySem.Spec PyProof.Rows L2
/-- what the written part says of a class right over KeyError -/
structure OexK (K : PySem.W.Frag) (C : Addr) : Prop where
  cls : ∃ nm q N bs sn sub ab col dd k0 k1 k2 k3 k5, K.lookup C = some (excClassObj nm q C N bs keTail true sn sub ab col dd k0 k1 k2 k3 k5 keN)
  sa : PySem.W.findIn K (.ref C) "__setattr__" = some (some (.builtin "object.__setattr__"))
  exC : PySem.W.subIn K (.ref C) (.type "BaseException") = some true
  tyC : PySem.W.typeIn K (.ref C) = some (.type "type")
  kC : PySem.W.keepIn K (.ref C) = true
section
variable {X : Cx} {pins : List (Addr × Obj)} {σ : L2.St} {H : Hp} {s : Shared} {a C dx : Addr} {f : Str} {y : V} {u : Value} {fs : List (Str × V)} {Q : Unit → Shared → Prop} {E : Value → Shared → Prop} {A : Around}
theorem kst_new (T : OexK X.K C) (I : Inv X pins σ H s) (e : H a = some (exo a C none)) (hno : PySem.W.findIn X.K (.ref C) f = some none) (ry : RelV y u)
    (h : ∀ dx s', H dx = none → dx ≠ a → Inv X pins σ (upd (upd H dx (exd dx [(f, y)])) a (exo a C (some dx))) s' → Q () s') : wpAny (model X.prog X.w) A (setAttr (.ref a) f u) Q E s := by
  obtain ⟨nm, q, N, bs, sn, sub, ab, col, dd, k0, k1, k2, k3, k5, hC⟩ := T.cls
  have hcl : PySem.W.clsIn X.K C = some { name := nm, bases := bs, mro := .ref C :: keTail, ns := N, qualname := q, hasDict := true, slotNames := sn, subclasses := sub, abstract := ab, collection := col, hasDel := false } := by unfold PySem.W.clsIn; rw [hC] <;> rfl
  obtain ⟨t1, ho⟩ := exo_at I.hok e
  obtain ⟨hp, g, d, t, os⟩ := s
  refine PySem.W.set_plain I.kIn (ox := { cls := .ref C, dict := none, data := .fields #[.ref t1, .none, .none, .none, .bool false, .none] }) (od := none) ⟨ho, rfl, rfl, trivial⟩ T.sa ?_
  refine ke_osa I.kIn ho hcl rfl rfl hno (fun h' tk' dx k dn dne hx hn => ?_)
  have hnd : H dx = none := I.hok.fresh dn
  have nd : ∀ {b : Addr} {o : Obj}, hp.get? b = some o → b ≠ dx := fun {b o} q => Nat.ne_of_lt (Nat.lt_of_lt_of_le (Heap.lt_size q) dn)
  have na : ∀ {b : Addr}, H b = none → b ≠ a := fun {b} n z => by
    rw [z, e] at n
    cases n
  have Un1 : Un X.fs [] H (upd (upd H dx (exd dx [(f, y)])) a (exo a C (some dx))) hp h' := {
    keep := fun b o q n _ _ => k b o (na n) q
    slot := fun b o q n _ _ => ⟨o.slots, k b o (na n) q⟩
    free := fun b o q n _ => by rw [upd_ne (na n), upd_ne (nd q)]; exact n
    there := fun b o q _ => by
      by_cases hb : b = a
      · exact ⟨_, by rw [hb]; exact hx⟩
      · exact ⟨o, k b o hb q⟩
    tups := fun b xs q => by rw [upd_ne (at_ne e q exo_tup), upd_ne (ne_of_none q hnd)]; exact q
    frzs := fun b o v q => by rw [upd_ne (at_ne e q exo_frz), upd_ne (ne_of_none q hnd)]; exact q
    tbls := fun b ps q => ⟨#[], by rw [upd_ne (at_ne e q exo_tbl), upd_ne (ne_of_none q hnd), q]; simp⟩ }
  refine h dx _ hnd dne (I.un (t' := tk') Un1 fun b o q => ?_)
  by_cases hb : b = a
  · subst hb
    rw [upd_same] at q
    cases q
    exact exo_ok hx
  · rw [upd_ne hb] at q
    by_cases hd : b = dx
    · subst hd
      rw [upd_same] at q
      cases q
      exact exd_ok hn (relO_put (fs := []) ry fun g => True.intro)
    · rw [upd_ne hd] at q
      exact (I.hok b o q).stay (fun c v hc z => k c v (by
          rcases hc with hc | hc
          · rw [hc]
            exact hb
          · exact at_ne e hc exo_own) z)
        (fun c hc => by rw [upd_ne (at_ne e hc exo_own), upd_ne (ne_of_none hc hnd)]; exact hc) (fun c xs hc => by rw [upd_ne (at_ne e hc exo_tup), upd_ne (ne_of_none hc hnd)]; exact hc)
theorem kinit_ok {us : List Value} {Q : Value → Shared → Prop} (T : OexK X.K C) (I : Inv X pins σ H s) (e : H a = some (exo a C none)) (hl : us.length ≤ sizeLine) (h : ∀ s', Inv X pins σ H s' → Q .none s') :
    wpAny (model X.prog X.w) A (call (.builtin "KeyError.__init__") (.ref a :: us)) Q E s := by
  obtain ⟨nm, q, N, bs, sn, sub, ab, col, dd, k0, k1, k2, k3, k5, hC⟩ := T.cls
  obtain ⟨t1, ho⟩ := exo_at I.hok e
  obtain ⟨hp, g, d, t, os⟩ := s
  refine wpAny_call (ke_init (I.kIn _ _ hC) ho hl fun h' t2 k hx => ?_)
  have J := I.write (t' := t) (x := a) (e := a) (o := exo a C none) (by rw [e]; exact True.intro) (.inl rfl) k ⟨_, hx⟩ (exo_ok hx)
  have eu : upd H a (exo a C none) = H := by
    funext b
    by_cases hb : b = a
    · rw [hb, upd_same, e]
    · rw [upd_ne hb]
  rw [eu] at J
  exact h _ J
end
/-! readings -/
structure KeIR (K : PySem.W.Frag) (Q : V → Hp → Prop) (vs : List V) (H1 : Hp) : Prop where
  ok : ∃ (a C : Addr) (ws : List V), vs = .ref a :: ws ∧ ws.length ≤ 1000 ∧ OexK K C ∧ H1 a = some (exo a C none) ∧ Q .non H1
def tKeI (K : PySem.W.Frag) (ta : TA) : TE := fun σ H Q => ta σ H (KeIR K Q)
/-- self.f = e, the first field -/
def tKst (K : PySem.W.Frag) (f : Str) (to te : TE) : TS := fun D σ H => te σ H fun y H1 => to σ H1 fun x H2 => ∃ a C : Addr, x = .ref a ∧ OexK K C ∧ PySem.W.findIn K (.ref C) f = some none ∧
  (H2 a = some (exo a C none) ∧ ∀ dx, H2 dx = none → dx ≠ a → D.nx σ (upd (upd H2 dx (exd dx [(f, y)])) a (exo a C (some dx))))
section
variable {X : Cx} {o e : Expr} {es : List Expr} {to te : TE} {ta : TA} {f : Str} {p p' p1 p2 pos : Pos}
theorem pe_keinit {pl : Sem Bool} (hg : Gl X "KeyError") (hm : X.mg "KeyError" = none) (vV : PySem.W.findCls X.K (.type "KeyError") (.type "type") "__init__" = some (.val (.builtin "KeyError.__init__"))) (ha : PA X (e :: es) ta)
    (hc : eval (.Call (.Attribute (.Name "KeyError" p1) "__init__" p2) (e :: es) [] pos) X.env = (do
      let ov ← eval (.Name "KeyError" p1) X.env
      standAt p2.atName
      let (f, first) ← holding [ov] (getMethod ov "__init__" pl)
      callWith pos f first (backTo pos (starEach (e :: es) X.env)) (backToKw pos (keywordEach [] X.env))) := by rfl)
    (he : starEach (e :: es) X.env = (false, eval e X.env) :: starEach es X.env := by rfl) (hpl : (backTo pos (starEach es X.env)).any (·.1) = false := by rfl) :
    PE X (.Call (.Attribute (.Name "KeyError" p1) "__init__" p2) (e :: es) [] pos) (tKeI X.K ta) := by
  refine ⟨fun pins s σ H Q I h => ?_⟩
  refine PySem.W.methodCall_KW (ld_blt I hg hm PyProof.Rows.Boot.«KeyError» ?_ (by decide) (by decide)) hc
  obtain ⟨m, fr⟩ := I.fr
  refine PySem.W.method_type fr I.ok.mod.kin ke_typ (by decide +kernel) vV (by decide +kernel) ?_
  show wpAny _ _ (callWith pos (Value.builtin "KeyError.__init__") [] (backTo pos (starEach (e :: es) X.env)) []) _ _ _
  refine PyProof.Rows.callWith_method1 (thn (ha.run pos pins _ σ H _ (I.tok _) h) fun us s1 ⟨vs, H1, I1, r1, z⟩ => ?_) he hpl
  obtain ⟨a, C, ws, ev, hl, T, ea, q⟩ := z.ok
  subst ev
  cases r1 with
  | @cons _ u0 _ ur ra rw' =>
    obtain rfl : u0 = Value.ref a := ra
    have hlen : ur.length ≤ sizeLine := by
      rw [← Paired.length rw', sizeLine_eq]
      omega
    exact kinit_ok T I1 ea hlen fun s' J => ⟨.non, H1, J, rfl, q⟩
theorem ps_kst (ho : PE X o to) (he : PE X e te) (hs : swapsWith e (some (.Attribute o f p')) pos.line X.env = pure false := by rfl) : PS X (.Assign [.Attribute o f p'] e pos) (tKst X.K f to te) := by
  refine ⟨fun pins s σ H D I h => ?_⟩
  refine plainObj_wpAny_Assign_Attribute (thn (he.run pins s σ H _ I h) fun v s1 ⟨y, H1, I1, r1, q1⟩ => thn (ho.run pins s1 σ H1 _ I1 q1) fun u s2 ⟨x, H2, I2, r2, a, C, ex, T, hno, q⟩ => ?_) hs
  subst ex
  obtain rfl : u = Value.ref a := r2
  obtain ⟨ea, q⟩ := q
  exact kst_new T I2 ea hno r1 fun dx s' n ne J => ⟨σ, _, J, q dx n ne⟩
theorem pmk_oek {CX : CXT} {x : Str} {C fI : Addr} {k : Nat} {fd : FuncData} {ps : List Str} {sp : Sp} {ds : List Value} {dvs : List V} (T : OexK X.K C) (iC : PySem.W.findIn X.K (.ref C) "__init__" = some (some (.ref fI))) (tI : PySem.W.typeIn X.K (.ref fI) = some (.type "function"))
    (F1 : FnOk X.prog X.w X.K X.mg X.base CX k fI fd ps sp) (hr : Room (k + 1) X.A) (hb : Binds X.K fd ps ds) (hd : Vals dvs ds) (hx : Passes CX X (fun _ _ _ => False)) (hg : Gl X x) (hm : X.mg x = some (.ref C)) (ha : PA X (e :: es) ta)
    (hdb : (x == ("__debug__" : Str)) = false := by decide) (he : starEach (e :: es) X.env = (false, eval e X.env) :: starEach es X.env := by rfl) (hpl : (backTo pos (starEach es X.env)).any (·.1) = false := by rfl) :
    PMk X (.Call (.Name x p) (e :: es) [] pos) (tMkO C sp dvs ta) := by
  intro pins s σ H Q I h
  obtain ⟨nm, q, N, bs, sn, sub, ab, col, dd, k0, k1, k2, k3, k5, hC⟩ := T.cls
  refine wpAny_Call_Name_kw (ld_glob I hg hm ?_ hdb)
  refine PySem.W.callWith_K (h₀ := X.base) I.ok.mod.kin T.kC (thn (ha.run pos pins s σ H _ I h) fun us s1 ⟨vs, H1, I1, r1, hz, q1⟩ => ⟨I1.kIn, ?_⟩) he hpl
  show wpAny _ _ (call (.ref C) us) _ _ _
  obtain ⟨hp, g, dr, tk, os⟩ := s1
  have hsz : hp.objs.size ≤ hp.objs.size + 1 := Nat.le_succ _
  have hn : H1 (hp.objs.size + 1) = none := I1.hok.fresh hsz
  have hq := q1 (hp.objs.size + 1) hn
  have kk : ∀ b o, hp.get? b = some o → ((hp.push (PySem.W.kdv_tup us)).push (PySem.HandSPX.excO C hp.objs.size)).get? b = some o := fun b o e => Heap.get?_push_of_some _ (Heap.get?_push_of_some _ e)
  have hget : ((hp.push (PySem.W.kdv_tup us)).push (PySem.HandSPX.excO C hp.objs.size)).get? (hp.objs.size + 1) = some (PySem.HandSPX.excO C hp.objs.size) := by heap_get
  have I2 : Inv X pins σ (upd H1 (hp.objs.size + 1) (exo (hp.objs.size + 1) C none)) ⟨(hp.push (PySem.W.kdv_tup us)).push (PySem.HandSPX.excO C hp.objs.size), g, dr, tk, os⟩ :=
    I1.laid (t' := tk) (a := hp.objs.size + 1) (o := exo (hp.objs.size + 1) C none) (h' := (hp.push (PySem.W.kdv_tup us)).push (PySem.HandSPX.excO C hp.objs.size)) kk hsz (exo_ok hget)
  have r2 : Vals (V.ref (hp.objs.size + 1) :: (vs ++ dvs)) (Value.ref (hp.objs.size + 1) :: (us ++ ds)) := .cons rfl (r1.append hd)
  have hl : (Value.ref (hp.objs.size + 1) :: us ++ ds).length = ps.length := by
    have e := r2.length
    rw [F1.len _ _ _ _ hq] at e
    exact e.symm
  have hus : us.length ≤ sizeLine := by
    rw [← Paired.length r1, sizeLine_eq]
    omega
  refine wpAny_call (ke_call (I1.kIn _ _ hC) (PySem.W.looks_findIn I1.kIn iC) (fun self => PySem.W.bind_fn I1.kIn self tI) hus
    (codeAny_mono (F1.run _ X.stack _ _ ⟨Value.ref (hp.objs.size + 1) :: us, []⟩ (Value.ref (hp.objs.size + 1) :: (us ++ ds)) _ _ (fun _ _ _ => False) (hr.make C us []) (I2.env0.make C us []) (hb _ (Value.ref (hp.objs.size + 1) :: us) I2.kIn hl) r2 hq) fun r s' hq' => ?_))
  cases r with
  | error er => exact hx pins σ _ _ er s' I2 hq'
  | ok fl =>
    cases fl with
    | ret u =>
      obtain ⟨v, H2, os2, bare2, un2, hok2, rv, ev, d, fs, ea, ed, hd1, q2⟩ := hq'
      subst ev
      obtain ⟨h2, g2, d2, t2, os'⟩ := s'
      exact ⟨rv, mk_end (raises_own T.exC T.tyC) I1 hsz kk un2 hok2 os2 bare2 ea ed hd1 q2⟩
    | next => exact False.elim hq'
    | brk => exact False.elim hq'
    | cont => exact False.elim hq'
end
end VF
set_option maxHeartbeats 4000000
/-! ## O. are_options, is_row -/
namespace VF
open PySem L2
abbrev s24 : Stmt := top 24
abbrev s25 : Stmt := top 25
def spOpts (K : PySem.W.Frag) : Sp := fun vs H Q _ => ∃ v os, vs = [v] ∧ Dt K H v (dN os) ∧ OkO os ∧ ∀ H', Same H H' → Q (.bl true) H'
def spRow (K : PySem.W.Frag) : Sp := fun vs H Q _ => ∃ o v os r, vs = [o, v] ∧ Dt K H o (dN os) ∧ Dt K H v (dR r) ∧ OkO os ∧ OkR os r ∧ ∀ H', Same H H' → Q (.bl true) H'
theorem row_inv {K : PySem.W.Frag} {H : Hp} {v : V} {r : Bal × Int} (h : Dt K H v (dR r)) : ∃ a x, v = .ref a ∧ SqT K H a [x, .int r.2] ∧ Dt K H x (dB r.1) := by
  obtain ⟨a, xs, rfl, ha, ht⟩ := h.tup_inv
  cases ht with
  | cons h1 t =>
    cases t with
    | cons h2 t =>
      cases t
      obtain rfl := h2.int_inv
      exact ⟨a, _, rfl, ha, h1⟩
theorem all_true {α : Type} {l : List α} {f : α → Bool} (h : ∀ x ∈ l, f x = true) : (l.map f).all id = true := by
  rw [List.all_map, List.all_eq_true]
  exact h
section
variable {P : Program} {w : World} {K : PySem.W.Frag} {mg : Str → Option Value} {base : Heap}
theorem sc24 : FnScope ["thing", "one"] ["thing"] (defScope s24) := ⟨rfl, rfl, rfl, by decide +kernel, rfl, by decide +kernel, by decide +kernel⟩
theorem ok_opts {f : Addr} {fd : FuncData} (F : Fun K "are_options" "are_options" s24 f fd) (B : Bt mg) (C : Cn mg) (Un : C8.Cal P w K mg base 1 "is_name" (spName K) []) (Uu : C8.Cal P w K mg base 1 "are_unlike" (spUnlike K) []) : FnOk P w K mg base CX0 2 f fd ["thing"] (spOpts K) := by
  refine F.ok sc24 (fun vs H Q E h => ?_) (fun cdv A outer s H vs Q E hr h => ?_)
  · obtain ⟨v, os, rfl, _⟩ := h
    rfl
  · obtain ⟨v, os, rfl, hv, oo, k⟩ := h
    have hv0 := hv
    obtain ⟨a, rfl, ha⟩ := hv.names_inv
    refine ⟨_, pss_cons (ps_if (PW.pt (pw_or (pt_not (pt_val (e_isi (K := K) B.isi (pv 0) (e_ty "tuple" B.tyTup)))) (pw_or1 (pt_not (pt_chain op_le op_le pe_int (e_len (K := K) B.len (pv 0)) (C8.pe_gc (by rfl) C.mostO))))))
        (pss_one (ps_ret pe_bl)) pss_nil)
      (pss_one (ps_ret (pe_and (e_all (K := K) B.all rfl (pe_lc (own := [("one", 1)]) rfl sc24.nd (i_tup (K := K) (pv 0)) (blkOk_by (N := ["thing", "one"]) (sc := defScope s24) (by decide +kernel)) (fun _ _ _ _ _ => pg_name (i := 1) sc24.nd rfl (Or.inl rfl)) (fun _ _ _ _ _ => pts_nil)
        (fun _ _ _ _ _ => C8.pe_c Un hr (by decide) (by rfl) (pa_cons (pv 1) pa_nil)))) (pe_one (C8.pe_c Uu hr (by decide) (by rfl) (pa_cons (pv 0) pa_nil)))))), ?_⟩
    have l1 : (os.map V.str).length = os.length := List.length_map ..
    have q1 := oo.least
    have q6 := oo.most
    refine ⟨_, rfl, isi_isTup hv0 ⟨_, rfl, iteF ⟨_, rfl, _, _, rfl, .inr ha, _, _, rfl, rfl, _, rfl, ?_⟩⟩⟩
    rw [l1, decide_eq_true (show (1 : Int) ≤ (os.length : Int) by omega)]
    refine iteT ⟨_, _, rfl, rfl, _, rfl, ?_⟩
    rw [decide_eq_true (show (os.length : Int) ≤ 6 by omega)]
    refine iteF ?_
    have wk : Walk (Itt K a) os.length (fun H => SqT K H a (os.map V.str)) (YAt (os.map V.str)) := l1 ▸ walk_tup (K := K) (a := a) (xs := os.map V.str)
    refine ⟨_, rfl, a, rfl, ⟨_, ha⟩, fun D hD => lc_b os isNameS wk hD (Nat.lt_of_le_of_lt q6 (by decide)) (fun H1 sm => same_t sm ha) ?_ fun H1 sm hy => all_b hy ?_⟩
    · rintro i x y H1 H2 hx sm ⟨rfl, hy⟩
      obtain rfl := str_item hx hy
      refine ⟨Same.refl _, fun A hA => ⟨rfl, _, rfl, _, .str x, rfl, .str x, fun z e => ?_, fun H' s' => ?_⟩⟩
      · cases e
        have q := oo.name x (List.mem_of_getElem? hx)
        simp only [isNameS, Bool.and_eq_true, decide_eq_true_eq] at q
        omega
      · exact hA _ s'
    · rw [all_true fun x hx => oo.name x hx]
      refine ⟨_, rfl, iteT ⟨_, rfl, _, os, rfl, ⟨a, rfl, .inr (same_t sm ha)⟩, by omega, fun H' s' => ?_⟩⟩
      rw [oo.unl]
      exact k H' (sm.trans s')
theorem sc25 : FnScope ["options", "row"] ["options", "row"] (defScope s25) := ⟨rfl, rfl, rfl, by decide +kernel, rfl, by decide +kernel, by decide +kernel⟩
theorem ok_row {f : Addr} {fd : FuncData} (F : Fun K "is_row" "is_row" s25 f fd) (B : Bt mg) (C : Cn mg) (Ub : C8.Cal P w K mg base 4 "is_ballot" (spBallotOk K) []) (Uw : C8.Cal P w K mg base 1 "is_whole" spWhole []) : FnOk P w K mg base CX0 5 f fd ["options", "row"] (spRow K) := by
  refine F.ok sc25 (fun vs H Q E h => ?_) (fun cdv A outer s H vs Q E hr h => ?_)
  · obtain ⟨o, v, os, r, rfl, _⟩ := h
    rfl
  · obtain ⟨o, v, os, r, rfl, ho, hv, oo, hR, k⟩ := h
    have hv0 := hv
    obtain ⟨a, x, rfl, ha, hx⟩ := row_inv hv
    refine ⟨_, pss_cons (ps_if (PW.pt (pw_or (pt_not (pt_val (e_isi (K := K) B.isi (pv 1) (e_ty "tuple" B.tyTup)))) (pw_or (pt_cmpR op_ne (e_len (K := K) B.len (pv 1)) pe_int (nomark _)) (pw_or1 (pt_not (pt_val (C8.pe_c Ub hr (by decide) (by rfl) (pa_cons (pv 0) (pa_cons (pe_ix ix_tup (pv 1) pe_int (fun _ _ => rfl)) pa_nil)))))))))
        (pss_one (ps_ret pe_bl)) pss_nil)
      (pss_one (ps_ret (pe_and (C8.pe_c Uw hr (by decide) (by rfl) (pa_cons (pe_ix ix_tup (pv 1) pe_int (fun _ _ => rfl)) pa_nil)) (pe_one (pe_chain op_le op_le pe_int (pe_ix ix_tup (pv 1) pe_int (fun _ _ => rfl)) (C8.pe_gc (by rfl) C.mostV)))))), ?_⟩
    refine ⟨_, rfl, isi_isTup hv0 ⟨_, rfl, iteF ?_⟩⟩
    refine ⟨_, rfl, a, _, rfl, .inr ha, rfl, _, rfl, iteF ?_⟩
    refine ⟨_, rfl, _, rfl, a, _, _, x, rfl, rfl, ha, rfl, o, x, r.1, os, rfl, hx, ho, oo, hR.bal, fun H' s' => ⟨_, rfl, iteF ?_⟩⟩
    have ha' := same_t s' ha
    refine ⟨_, rfl, a, _, _, .int r.2, rfl, rfl, ha', rfl, r.2, rfl, _, rfl, iteT ?_⟩
    refine ⟨_, rfl, a, _, _, .int r.2, rfl, rfl, ha', rfl, _, _, rfl, rfl, _, rfl, ?_⟩
    rw [decide_eq_true hR.lo]
    refine iteT ⟨_, _, rfl, rfl, ?_⟩
    show Q (.bl (decide (r.2 ≤ 1000000))) H'
    rw [decide_eq_true hR.hi]
    exact k H' s'
end
end VF
set_option maxHeartbeats 4000000
/-! ## P. the errors' __init__, raising them -/
namespace VF
open PySem L2
abbrev c1 : Stmt := inClass (top 1) 0
abbrev c3 : Stmt := inClass (top 3) 0
/-- a new error's field -/
def spPE (K : PySem.W.Frag) : Sp := fun vs H Q _ => ∃ (a C : Addr) (y : V), vs = [.ref a, y] ∧ OexC K C ∧ PySem.W.findIn K (.ref C) "why" = some none ∧ H a = some (exo a C none) ∧
  ∀ dx, H dx = none → dx ≠ a → Q .non (upd (upd H dx (exd dx [("why", y)])) a (exo a C (some dx)))
def spNO (K : PySem.W.Frag) : Sp := fun vs H Q _ => ∃ (a C : Addr) (y : V), vs = [.ref a, y] ∧ OexK K C ∧ PySem.W.findIn K (.ref C) "name" = some none ∧ H a = some (exo a C none) ∧
  ∀ dx, H dx = none → dx ≠ a → Q .non (upd (upd H dx (exd dx [("name", y)])) a (exo a C (some dx)))
section
variable {P : Program} {w : World} {K : PySem.W.Frag} {mg : Str → Option Value} {base : Heap}
theorem scP1 : FnScope ["self", "why"] ["self", "why"] (defScope c1) := ⟨rfl, rfl, rfl, by decide +kernel, rfl, by decide +kernel, by decide +kernel⟩
theorem scP3 : FnScope ["self", "name"] ["self", "name"] (defScope c3) := ⟨rfl, rfl, rfl, by decide +kernel, rfl, by decide +kernel, by decide +kernel⟩
theorem ok_pe {f : Addr} {fd : FuncData} {dvs : List V} (F : FunD K "__init__" "PollError.__init__" (defArgs c1) (defBody c1) (defScope c1) dvs [] f fd) (B : Bt mg)
    (vV : PySem.W.findCls K (.type "ValueError") (.type "type") "__init__" = some (.val (.builtin "ValueError.__init__"))) : FnOk P w K mg base CX0 1 f fd ["self", "why"] (spPE K) := by
  refine F.ok scP1 (fun vs H Q E h => ?_) (fun cdv A outer s H vs Q E hr h => ?_)
  · obtain ⟨a, C, y, rfl, _⟩ := h
    rfl
  · obtain ⟨a, C, y, rfl, T, nb, ha, k⟩ := h
    refine ⟨_, pss_cons (ps_expr (pe_veinit (by rfl) B.vE vV (pa_cons (pv 0) (pa_cons (pv 1) pa_nil)))) (pss_one (ps_ost (pv 0) (pv 1))), ?_⟩
    exact ⟨_, rfl, _, rfl, a, C, [y], rfl, Nat.le_of_ble_eq_true rfl, T, ha, _, rfl, _, rfl, a, C, rfl, T, nb, .inl ⟨ha, fun dx hd ne => k dx hd ne⟩⟩
theorem ok_no {f : Addr} {fd : FuncData} (F : Fun K "__init__" "NoOption.__init__" c3 f fd) (B : Bt mg)
    (vV : PySem.W.findCls K (.type "KeyError") (.type "type") "__init__" = some (.val (.builtin "KeyError.__init__"))) : FnOk P w K mg base CX0 1 f fd ["self", "name"] (spNO K) := by
  refine F.ok scP3 (fun vs H Q E h => ?_) (fun cdv A outer s H vs Q E hr h => ?_)
  · obtain ⟨a, C, y, rfl, _⟩ := h
    rfl
  · obtain ⟨a, C, y, rfl, T, nb, ha, k⟩ := h
    refine ⟨_, pss_cons (ps_expr (pe_keinit (by rfl) B.kE vV (pa_cons (pv 0) (pa_cons pe_str pa_nil)))) (pss_one (ps_kst (pv 0) (pv 1))), ?_⟩
    exact ⟨_, rfl, ⟨a, C, [.str "no such option"], rfl, by decide, T, ha, _, rfl, _, rfl, a, C, rfl, T, nb, ha, fun dx hd ne => k dx hd ne⟩⟩
/-- BadPoll can be raised -/
structure BadC (P : Program) (w : World) (K : PySem.W.Frag) (mg : Str → Option Value) (base : Heap) (C : Addr) : Prop where
  T : OexC K C
  nb : PySem.W.findIn K (.ref C) "why" = some none
  m : mg "BadPoll" = some (.ref C)
  ex : ∃ (fI : Addr) (fd : FuncData), PySem.W.findIn K (.ref C) "__init__" = some (some (.ref fI)) ∧ PySem.W.typeIn K (.ref fI) = some (.type "function") ∧ FnOk P w K mg base CX0 1 fI fd ["self", "why"] (spPE K) ∧ Binds K fd ["self", "why"] []
/-- NoOption can be raised -/
structure NoC (P : Program) (w : World) (K : PySem.W.Frag) (mg : Str → Option Value) (base : Heap) (C : Addr) : Prop where
  T : OexK K C
  nb : PySem.W.findIn K (.ref C) "name" = some none
  m : mg "NoOption" = some (.ref C)
  ex : ∃ (fI : Addr) (fd : FuncData), PySem.W.findIn K (.ref C) "__init__" = some (some (.ref fI)) ∧ PySem.W.typeIn K (.ref fI) = some (.type "function") ∧ FnOk P w K mg base CX0 1 fI fd ["self", "name"] (spNO K) ∧ Binds K fd ["self", "name"] []
end
def tBad (C : Addr) (te : TE) (W : WX) : TS := fun _ σ H => te σ H fun y H1 => ∀ d H', Same H1 H' → W (.ref C) (some d) σ H'
def tNoO (C : Addr) (te : TE) (W : WX) : TS := fun _ σ H => te σ H fun y H1 => ∀ d H', Same H1 H' → H' d = some (.xd [("name", y)]) → W (.ref C) (some d) σ H'
theorem exc_same {H : Hp} {a d C : Addr} {fs : List (Str × V)} (ha : H a = none) (hd : H d = none) : Same H (upd (del (upd (upd (upd H a (exo a C none)) d (exd d fs)) a (exo a C (some d))) a) d (.xd fs)) := by
  intro b o hb
  rw [upd_ne (ne_of_none hb hd), del_ne (ne_of_none hb ha), upd_ne (ne_of_none hb ha), upd_ne (ne_of_none hb hd), upd_ne (ne_of_none hb ha)]
  exact hb
/-- the same argument, its reading closed under weaker wishes -/
def tUp (te : TE) : TA := fun σ H Q => ∃ R : V → Hp → Prop, te σ H R ∧ ∀ y H1, R y H1 → Q [y] H1
section
variable {X : Cx} {W : WX} {e : Expr} {te : TE} {C : Addr} {j : Nat} {p pos pos' : Pos}
theorem pa_up (he : PE X e te) (hs : starEach [e] X.env = (false, eval e X.env) :: starEach [] X.env) : PA X [e] (tUp te) := by
  refine ⟨fun pos pins s σ H Q I h => ?_⟩
  obtain ⟨R, h1, h2⟩ := h
  refine wpAny_mono ((pa_cons he pa_nil hs).run pos pins s σ H (fun vs H1 => match vs with | [y] => R y H1 | _ => False) I h1) (fun us s' q => ?_) fun _ _ z => z
  obtain ⟨vs, H', J, r, k⟩ := q
  match vs, k with
  | [y], k => exact ⟨[y], H', J, r, h2 y H' k⟩
theorem ps_bad (G : BadC X.prog X.w X.K X.mg X.base C) (hr : Room j X.A) (hj : 2 ≤ j) (he : PE X e te) (tk : Takes X W) (hc : X.calm = true := by rfl) (hg : Gl X "BadPoll" := by rfl) (hs : starEach [e] X.env = (false, eval e X.env) :: starEach [] X.env := by rfl) :
    PS X (.Raise (some (.Call (.Name "BadPoll" p) [e] [] pos)) none pos') (tBad C te W) := by
  obtain ⟨fI, fd, iC, tI, F1, hb⟩ := G.ex
  have R := ps_raise (pos := pos') hc tk (pmk_oex (p := p) (pos := pos) G.T iC tI F1 (hr.mono hj) hb .nil pass0 hg G.m (pa_up he hs) (by decide) hs)
  refine ⟨fun pins s σ H D I h => R.run pins s σ H D I ⟨_, h, fun y H1 k => ⟨Nat.le_of_ble_eq_true rfl, fun a ha => ⟨a, C, y, rfl, G.T, G.nb, upd_same, fun dx hd ne => ?_⟩⟩⟩⟩
  rw [upd_ne ne] at hd
  exact ⟨rfl, dx, [("why", y)], upd_same, (upd_ne ne).trans upd_same, hd, k dx _ (exc_same ha hd)⟩
theorem ps_noo (G : NoC X.prog X.w X.K X.mg X.base C) (hr : Room j X.A) (hj : 2 ≤ j) (he : PE X e te) (tk : Takes X W) (hc : X.calm = true := by rfl) (hg : Gl X "NoOption" := by rfl) (hs : starEach [e] X.env = (false, eval e X.env) :: starEach [] X.env := by rfl) :
    PS X (.Raise (some (.Call (.Name "NoOption" p) [e] [] pos)) none pos') (tNoO C te W) := by
  obtain ⟨fI, fd, iC, tI, F1, hb⟩ := G.ex
  have R := ps_raise (pos := pos') hc tk (pmk_oek (p := p) (pos := pos) G.T iC tI F1 (hr.mono hj) hb .nil pass0 hg G.m (pa_up he hs) (by decide) hs)
  refine ⟨fun pins s σ H D I h => R.run pins s σ H D I ⟨_, h, fun y H1 k => ⟨Nat.le_of_ble_eq_true rfl, fun a ha => ⟨a, C, y, rfl, G.T, G.nb, upd_same, fun dx hd ne => ?_⟩⟩⟩⟩
  rw [upd_ne ne] at hd
  exact ⟨rfl, dx, [("name", y)], upd_same, (upd_ne ne).trans upd_same, hd, k dx _ (exc_same ha hd) upd_same⟩
end
end VF
set_option maxHeartbeats 4000000
/-! ## Q. ask_options -/
namespace VF
open PySem L2
abbrev s18 : Stmt := top 18
def spAsk (K : PySem.W.Frag) (CN : Addr) : Sp := fun vs H Q E => ∃ (o : V) (an : Addr) (os xs : List Str), vs = [o, .ref an] ∧ Dt K H o (dN os) ∧ SqL K H an (xs.map V.str) ∧ xs.length ≤ 1000 ∧
  ((∀ x ∈ xs, x ∈ os) → Q .non H) ∧ ∀ i x, xs[i]? = some x → x ∉ os → (∀ y ∈ xs.take i, y ∈ os) → ∀ d H', Same H H' → H' d = some (.xd [("name", .str x)]) → E (.ref CN) (some d) H'
section
variable {P : Program} {w : World} {K : PySem.W.Frag} {mg : Str → Option Value} {base : Heap}
theorem sc18 : FnScope ["options", "names", "name"] ["options", "names"] (defScope s18) := ⟨rfl, rfl, rfl, by decide +kernel, rfl, by decide +kernel, by decide +kernel⟩
theorem ok_ask {f CN : Addr} {fd : FuncData} (F : Fun K "ask_options" "ask_options" s18 f fd) (B : Bt mg) (G : NoC P w K mg base CN) : FnOk P w K mg base (L2.CX P w) 3 f fd ["options", "names"] (spAsk K CN) := by
  refine F.okX sc18 (fun vs H Q E h => ?_) (fun cdv A outer s H vs Q E hr h => ?_)
  · obtain ⟨o, an, os, xs, rfl, _⟩ := h
    rfl
  · obtain ⟨o, an, os, xs, rfl, ho, hn, hl, k, e⟩ := h
    refine ⟨_, pss_one (ps_for (passes_of rfl) rfl (i_list (K := K) (pv 1)) (pg_name (i := 2) sc18.nd rfl (Or.inl rfl))
      (pss_one (ps_if (PW.pt (pw_or (pt_not (pt_val (e_isi (K := K) B.isi (pv 2) (e_ty "str" B.tyStr)))) (pw_or1 (pt_cmpR (o_nin (K := K)) (pv 2) (pv 0) (by rfl)))))
        (pss_one (ps_noo G hr (by decide) (pv 2) (takes_of rfl rfl rfl rfl))) pss_nil))), ?_⟩
    obtain ⟨a, rfl, ha⟩ := ho.names_inv
    refine ⟨_, rfl, an, rfl, ⟨_, hn⟩, for_list (xs := xs.map V.str) (fun i σ H1 => H1 = H ∧ (∃ x2, σ = [some (.ref a), some (.ref an), x2]) ∧ (∀ y ∈ xs.take i, y ∈ os)) ⟨rfl, ⟨_, rfl⟩, fun y hy => by rw [List.take_zero] at hy; cases hy⟩ (fun i σ H1 _ h => by rw [h.1]; exact hn) ?_ ?_⟩
    · rintro i x σ H1 hx ⟨rfl, ⟨x2, rfl⟩, hy⟩
      rw [List.getElem?_map] at hx
      cases hz : xs[i]? with
      | none => rw [hz] at hx; cases hx
      | some z =>
        rw [hz] at hx
        cases hx
        refine ⟨_, rfl, isi_isStr ⟨_, rfl, iteF ⟨_, rfl, _, rfl, nin_s (xs := os) (.inr ha) ⟨_, rfl, ?_⟩⟩⟩⟩
        by_cases q : z ∈ os
        · rw [decide_eq_true q]
          refine iteF ⟨rfl, ⟨_, rfl⟩, fun y hm => ?_⟩
          rw [List.take_succ, hz] at hm
          rcases List.mem_append.mp hm with hm | hm
          · exact hy y hm
          · obtain rfl : y = z := by simpa using hm
            exact q
        · rw [decide_eq_false q]
          exact iteT ⟨_, rfl, fun d H' s' hd => e i z hz q hy d H' s' hd⟩
    · rintro σ H1 ⟨rfl, _, hy⟩
      rw [List.length_map, List.take_length] at hy
      exact k hy
end
end VF
set_option maxHeartbeats 4000000
/-! ## R. Poll: its instances, its __init__, making one -/
namespace VF
open PySem L2
abbrev cP (j : Nat) : Stmt := inClass (top 26) j
/-- the class Poll -/
structure PolC (K : PySem.W.Frag) (mg : Str → Option Value) (C : Addr) : Prop where
  cls : Cls K C
  nO : NoAttr K C "options"
  nV : NoAttr K C "voices"
  m : mg "Poll" = some (.ref C)
/-- a poll of these options and rows -/
structure Pl (K : PySem.W.Frag) (C : Addr) (H : Hp) (v : V) (os : List Str) (rs : List (Bal × Int)) : Prop where
  ex : ∃ (p dx : Addr) (o r : V), v = .ref p ∧ H p = some (.ins C dx [("options", o), ("voices", r)]) ∧ Dt K H o (dN os) ∧ Dt K H r (dV rs)
theorem Pl.same {K : PySem.W.Frag} {C : Addr} {H H' : Hp} {v : V} {os : List Str} {rs : List (Bal × Int)} (h : Pl K C H v os rs) (s : Same H H') : Pl K C H' v os rs := by
  obtain ⟨p, dx, o, r, e, hp, ho, hr⟩ := h.ex
  exact ⟨p, dx, o, r, e, s _ _ hp, ho.same s, hr.same s⟩
def spInit (K : PySem.W.Frag) (C CB : Addr) : Sp := fun vs H Q E => ∃ (p dx : Addr) (o r : V) (os : List Str) (rs : List (Bal × Int)), vs = [.ref p, o, r] ∧ H p = some (.ins C dx []) ∧ Dt K H o (dN os) ∧ OkO os ∧ Dt K H r (dV rs) ∧ (∀ x ∈ rs, OkR os x) ∧ rs.length ≤ 1000 ∧
  (rs.length ≤ 30 → ∀ H', (∀ b u, b ≠ p → H b = some u → H' b = some u) → H' p = some (.ins C dx [("options", o), ("voices", r)]) → Q .non H') ∧ (30 < rs.length → ∀ d H', Same H H' → E (.ref CB) (some d) H')
theorem bad_len {n : Nat} (h : n ≤ 1000) : n < sizeLine := Nat.lt_of_le_of_lt h (by decide)
section
variable {P : Program} {w : World} {K : PySem.W.Frag} {mg : Str → Option Value} {base : Heap}
theorem dV_inv {H : Hp} {v : V} {rs : List (Bal × Int)} (h : Dt K H v (dV rs)) : ∃ a xs, v = .ref a ∧ SqT K H a xs ∧ Dts K H xs (rs.map dR) := h.tup_inv
theorem scI : FnScope ["self", "options", "voices", "row"] ["self", "options", "voices"] (defScope (cP 0)) := ⟨rfl, rfl, rfl, by decide +kernel, rfl, by decide +kernel, by decide +kernel⟩
theorem ok_init {f C CB : Addr} {fd : FuncData} {dvs : List V} (F : FunD K "__init__" "Poll.__init__" (defArgs (cP 0)) (defBody (cP 0)) (defScope (cP 0)) dvs [] f fd) (B : Bt mg) (Cc : Cn mg) (T : PolC K mg C) (G : BadC P w K mg base CB)
    (Uo : C8.Cal P w K mg base 2 "are_options" (spOpts K) []) (Ur : C8.Cal P w K mg base 5 "is_row" (spRow K) []) : FnOk P w K mg base (L2.CX P w) 6 f fd ["self", "options", "voices"] (spInit K C CB) := by
  refine F.ok scI (fun vs H Q E h => ?_) (fun cdv A outer s H vs Q E hr h => ?_)
  · obtain ⟨p, dx, o, r, os, rs, rfl, _⟩ := h
    rfl
  · obtain ⟨p, dx, o, r, os, rs, rfl, hp, ho, oo, hv, hR, hz, k, e⟩ := h
    have hv0 := hv
    obtain ⟨a, xs, rfl, ha, hd⟩ := dV_inv hv
    have hlen := hd.length
    rw [List.length_map] at hlen
    refine ⟨_, pss_cons (ps_if (PT.nox (pt_not (pt_val (C8.pe_c Uo hr (by decide) (by rfl) (pa_cons (pv 1) pa_nil)))))
        (pss_one (ps_bad G hr (by decide) pe_str (takes_of rfl rfl rfl rfl))) pss_nil)
      (pss_cons (ps_if (PT.nox (PW.pt (pw_or (pt_not (pt_val (e_isi (K := K) B.isi (pv 2) (e_ty "tuple" B.tyTup)))) (pw_or1 (pt_cmpR op_gt (e_len (K := K) B.len (pv 2)) (C8.pe_gc (by rfl) Cc.mostR) (nomark _))))))
        (pss_one (ps_bad G hr (by decide) pe_str (takes_of rfl rfl rfl rfl))) pss_nil)
      (pss_cons (ps_if (PT.nox (pt_not (pt_val (e_all (K := K) B.all rfl (pe_lc (own := [("row", 3)]) rfl scI.nd (i_tup (K := K) (pv 2)) (blkOk_by (N := ["self", "options", "voices", "row"]) (sc := defScope (cP 0)) (by decide +kernel)) (fun _ _ _ _ _ => pg_name (i := 3) scI.nd rfl (Or.inl rfl)) (fun _ _ _ _ _ => pts_nil)
          (fun _ _ _ _ _ => C8.pe_c Ur hr (by decide) (by rfl) (pa_cons (pv 1) (pa_cons (pv 3) pa_nil))))))))
        (pss_one (ps_bad G hr (by decide) pe_str (takes_of rfl rfl rfl rfl))) pss_nil)
      (PSs.nox (pss_cons (ps_fld (pv 0) (pv 1) rfl) (pss_one (ps_fld (pv 0) (pv 2) rfl)))))), ?_⟩
    refine ⟨_, rfl, o, os, rfl, ho, oo, fun H1 s1 => ⟨_, rfl, iteF ?_⟩⟩
    refine ⟨_, rfl, isi_isTup (hv0.same s1) ⟨_, rfl, iteF ?_⟩⟩
    refine ⟨_, rfl, a, _, rfl, .inr (same_t s1 ha), _, _, rfl, rfl, _, rfl, ?_⟩
    rw [hlen]
    by_cases h30 : rs.length ≤ 30
    · rw [decide_eq_false (show ¬ ((rs.length : Int) > 30) by omega)]
      refine iteF ?_
      refine ⟨_, rfl, a, rfl, ⟨_, same_t s1 ha⟩, fun D hD => lc_b rs (fun _ => true) (hlen ▸ walk_tup (K := K) (a := a) (xs := xs)) hD (bad_len hz) (fun H2 s2 => same_t (s1.trans s2) ha) ?_ fun H2 s2 hy => all_b hy ?_⟩
      · rintro i x y H2 H3 hx s2 ⟨rfl, hy⟩
        obtain ⟨d, hd1, hd2⟩ := hd.get hy
        rw [List.getElem?_map, hx] at hd1
        cases hd1
        exact ⟨Same.refl _, fun A hA => ⟨rfl, _, rfl, _, rfl, o, y, os, x, rfl, ho.same (s1.trans s2), hd2.same (s1.trans s2), oo, hR x (List.mem_of_getElem? hx), fun H' s' => hA _ s'⟩⟩
      · rw [all_true fun x _ => rfl]
        have sm := s1.trans s2
        refine ⟨_, rfl, iteF ?_⟩
        refine ⟨_, rfl, _, rfl, p, C, dx, [], rfl, sm _ _ hp, T.cls, T.nO, by decide, ?_⟩
        refine ⟨_, rfl, _, rfl, p, C, dx, [("options", o)], rfl, upd_same, T.cls, T.nV, by simp, ?_⟩
        exact k h30 _ (fun b u hb q => by rw [upd_ne hb, upd_ne hb]; exact sm _ _ q) upd_same
    · rw [decide_eq_true (show ((rs.length : Int) > 30) by omega)]
      exact iteT fun d H' s' => e (Nat.lt_of_not_le h30) d H' (s1.trans s')
/-- Poll(options, voices): made, or refused -/
theorem mk_poll {C CB : Addr} {H : Hp} {o r : V} {os : List Str} {rs : List (Bal × Int)} {Q : VK} {E : XK} (ho : Dt K H o (dN os)) (oo : OkO os) (hr : Dt K H r (dV rs)) (hR : ∀ x ∈ rs, OkR os x) (hz : rs.length ≤ 1000)
    (k : rs.length ≤ 30 → ∀ v H', Same H H' → Pl K C H' v os rs → Q v H') (e : 30 < rs.length → ∀ d H', Same H H' → E (.ref CB) (some d) H') :
    ∀ x dx, H x = none → H dx = none → dx ≠ x → spInit K C CB [.ref x, o, r] (upd (upd H dx (.own x)) x (.ins C dx [])) (fun v H2 => v = .non ∧ Q (.ref x) H2) E := by
  intro x dx hx hdx ne
  have s0 : Same H (upd (upd H dx (.own x)) x (.ins C dx [])) := fun b u q => by rw [upd_ne (ne_of_none q hx), upd_ne (ne_of_none q hdx)]; exact q
  refine ⟨x, dx, o, r, os, rs, rfl, upd_same, ho.same s0, oo, hr.same s0, hR, hz, fun h30 H' hk hp => ⟨rfl, ?_⟩, fun h30 d H' s' => e h30 d H' (s0.trans s')⟩
  have s1 : Same H H' := fun b u q => hk b u (ne_of_none q hx) (s0 b u q)
  exact k h30 _ H' s1 ⟨x, dx, o, r, rfl, hp, ho.same s1, hr.same s1⟩
end
end VF
set_option maxHeartbeats 4000000
/-! ## S. Poll.joined -/
namespace VF
open PySem L2
/-- Poll(..) may be made -/
structure MakP (P : Program) (w : World) (K : PySem.W.Frag) (mg : Str → Option Value) (base : Heap) (C CB : Addr) : Prop where
  ex : ∃ (f : Addr) (fd : FuncData) (aE : Addr) (ds : List Value), Mk K C f ∧ FnOk P w K mg base (L2.CX P w) 6 f fd ["self", "options", "voices"] (spInit K C CB) ∧ mg "Poll" = some (.ref C) ∧ Binds K fd ["self", "options", "voices"] [] ∧
    (∀ H, SqT K H aE []) ∧ Binds K fd ["self", "options", "voices"] ds ∧ Vals [.ref aE] ds
/-- + of tuples, its reading closed -/
structure CatR (K : PySem.W.Frag) (x y : V) (H : Hp) (Q : VK) : Prop where
  h : rCatA K x y H Q
theorem o_cat {X : Cx} {K : PySem.W.Frag} (hK : X.K = K := by rfl) : OpR X (binaryOp .Add) (CatR K) := by
  subst hK
  exact fun pins s σ H x y v u Q I rx ry h => op_catA pins s σ H x y v u Q I rx ry h.h
section
variable {P : Program} {w : World} {K : PySem.W.Frag} {mg : Str → Option Value} {base : Heap} {C CB : Addr}
/-- two tuples of data in one -/
theorem cat_d {H : Hp} {x y : V} {d e : List PyData} {Q : VK} (hx : Dt K H x (.tuple d)) (hy : Dt K H y (.tuple e)) (hz : d.length + e.length ≤ 1000) (k : ∀ v H', Same H H' → Dt K H' v (.tuple (d ++ e)) → Q v H') : CatR K x y H Q := by
  obtain ⟨a, xs, rfl, ha, hd⟩ := hx.tup_inv
  obtain ⟨b, ys, rfl, hb, he⟩ := hy.tup_inv
  have l1 := hd.length
  have l2 := he.length
  refine ⟨a, b, xs, ys, rfl, rfl, ha, hb, Nat.le_of_lt (Nat.lt_of_le_of_lt (show xs.length + ys.length ≤ 1000 by omega) (by decide)), fun z => ?_, fun _ z => ?_, fun _ _ p hp => ?_⟩
  · subst z
    cases hd
    exact k _ _ (Same.refl _) hy
  · subst z
    cases he
    rw [List.append_nil] at k
    exact k _ _ (Same.refl _) hx
  · have s := L2.Same.put (o := .tup (xs ++ ys)) hp
    exact k _ _ s (.new upd_same ((hd.same s).app (he.same s)))
/-- tells the data of Poll(..)'s two arguments apart -/
theorem e_poll {X : Cx} {j : Nat} {E : XK} {p pos : Pos} {e1 e2 : Expr} {t : TA} (M : MakP X.prog X.w X.K X.mg X.base C CB) (hr : Room j X.A) (hj : 7 ≤ j) (hx : Passes (L2.CX X.prog X.w) X E) (ha : PA X [e1, e2] t) (hg : Gl X "Poll" := by rfl)
    (he : starEach [e1, e2] X.env = (false, eval e1 X.env) :: starEach [e2] X.env := by rfl) (hpl : (backTo pos (starEach [e2] X.env)).any (·.1) = false := by rfl) :
    PE X (.Call (.Name "Poll" p) [e1, e2] [] pos) (tMake C (spInit X.K C CB) [] E t) := by
  obtain ⟨f, fd, aE, ds, mk, F, m, b, _, _, _⟩ := M.ex
  exact pe_make mk F (hr.mono hj) hg m b .nil hx ha (by decide) he hpl
abbrev s26_5 : Stmt := cP 5
def spJoin (K : PySem.W.Frag) (C CB : Addr) : Sp := fun vs H Q E => ∃ (v1 v2 : V) (os os2 : List Str) (rs rs2 : List (Bal × Int)), vs = [v1, v2] ∧ Pl K C H v1 os rs ∧ Pl K C H v2 os2 rs2 ∧ OkO os ∧ OkO os2 ∧ (∀ x ∈ rs, OkR os x) ∧ (∀ x ∈ rs2, OkR os2 x) ∧
  rs.length ≤ 100 ∧ rs2.length ≤ 100 ∧ (os = os2 → rs.length + rs2.length ≤ 30 → ∀ v H', Same H H' → Pl K C H' v os (rs ++ rs2) → Q v H') ∧ (os ≠ os2 ∨ 30 < rs.length + rs2.length → ∀ d H', Same H H' → E (.ref CB) (some d) H')
theorem str_inj : ∀ {xs ys : List Str}, xs.map PyData.str = ys.map PyData.str → xs = ys
  | [], [], _ => rfl
  | [], _ :: _, h => by simp at h
  | _ :: _, [], h => by simp at h
  | x :: xs, y :: ys, h => by
    rw [List.map_cons, List.map_cons, List.cons.injEq] at h
    rw [str_inj h.2]
    have q := h.1
    cases q
    rfl
theorem dN_inj {xs ys : List Str} (h : dN xs = dN ys) : xs = ys := by
  unfold dN at h
  exact str_inj (PyData.tuple.inj h)
theorem dV_app (rs rs2 : List (Bal × Int)) : dV (rs ++ rs2) = .tuple (rs.map dR ++ rs2.map dR) := by rw [dV, List.map_append]
theorem scJ : FnScope ["self", "other"] ["self", "other"] (defScope (cP 5)) := ⟨rfl, rfl, rfl, by decide +kernel, rfl, by decide +kernel, by decide +kernel⟩
theorem ok_join {f : Addr} {fd : FuncData} (F : Fun K "joined" "Poll.joined" (cP 5) f fd) (B : Bt mg) (T : PolC K mg C) (G : BadC P w K mg base CB) (M : MakP P w K mg base C CB) : FnOk P w K mg base (L2.CX P w) 8 f fd ["self", "other"] (spJoin K C CB) := by
  refine F.okX scJ (fun vs H Q E h => ?_) (fun cdv A outer s H vs Q E hr h => ?_)
  · obtain ⟨v1, v2, os, os2, rs, rs2, rfl, _⟩ := h
    rfl
  · obtain ⟨v1, v2, os, os2, rs, rs2, rfl, h1, h2, oo, oo2, hR, hR2, hz, hz2, k, e⟩ := h
    obtain ⟨p, dx, o, r, rfl, hp, ho, hv⟩ := h1.ex
    obtain ⟨p2, dx2, o2, r2, rfl, hp2, ho2, hv2⟩ := h2.ex
    refine ⟨_, pss_cons (ps_if (pt_cmpR (o_ne (K := K) hr) (pe_fld (pv 0) rfl) (pe_fld (pv 1) rfl) (nomark _))
        (pss_one (ps_bad G hr (by decide) pe_str (takes_of rfl rfl rfl rfl))) pss_nil)
      (pss_one (ps_ret (e_poll (E := E) M hr (by decide) (passes_call (takes_of (E := E) rfl rfl rfl rfl) fun _ _ _ _ z => z)
        (pa_cons (pe_fld (pv 0) rfl) (pa_cons (pe_op (o_cat (K := K)) (pe_fld (pv 0) rfl) (pe_fld (pv 1) rfl)) pa_nil))))), ?_⟩
    refine ⟨_, rfl, p, C, dx, _, o, rfl, hp, T.cls, T.nO, rfl, _, rfl, p2, C, dx2, _, o2, rfl, hp2, T.cls, T.nO, rfl, ?_⟩
    refine ne_d ho ho2 (oo.gd.fit (by decide)) (oo2.gd.fit (by decide)) (fun z => ?_) fun z => ?_
    · rw [real_dN, real_dN] at z
      obtain rfl := dN_inj z
      refine ⟨_, rfl, iteF ?_⟩
      refine ⟨_, rfl, p, C, dx, _, o, rfl, hp, T.cls, T.nO, rfl, _, rfl, p, C, dx, _, r, rfl, hp, T.cls, T.nV, rfl, _, rfl, p2, C, dx2, _, r2, rfl, hp2, T.cls, T.nV, rfl, ?_⟩
      refine cat_d hv hv2 (by rw [List.length_map, List.length_map]; omega) fun v H1 s1 hc => ?_
      rw [← dV_app] at hc
      refine mk_poll (ho.same s1) oo hc (fun x hx => ?_) (by rw [List.length_append]; omega) (fun h30 v' H' s' hl => ?_) fun h30 d H' s' => ?_
      · rcases List.mem_append.mp hx with hx | hx
        · exact hR x hx
        · exact hR2 x hx
      · rw [List.length_append] at h30
        exact k rfl h30 v' H' (s1.trans s') hl
      · rw [List.length_append] at h30
        exact e (.inr h30) d H' (s1.trans s')
    · refine ⟨_, rfl, iteT fun d H' s' => e (.inl fun q => z (by rw [q])) d H' s'⟩
end
end VF
set_option maxHeartbeats 4000000
/-! ## U. Poll.only -/
namespace VF
open PySem L2
/-- those of the options that are told -/
def keptO (os xs : List Str) : List Str := os.filter fun x => decide (x ∈ xs)
def keptR (ks : List Str) (rs : List (Bal × Int)) : List (Bal × Int) := rs.map fun r => (cutB ks r.1, r.2)
abbrev Bad (E : XK) (CB : Addr) (H : Hp) : Prop := ∀ d H', Same H H' → E (.ref CB) (some d) H'
/-- what only may be given, and what comes of it -/
inductive OnlyA (K : PySem.W.Frag) (C CB CN : Addr) (H : Hp) (os : List Str) (rs : List (Bal × Int)) (Q : VK) (E : XK) : V → Prop
  | lst {a : Addr} {ys : List V} (h : H a = some (.lst ys)) (b : Bad E CB H) : OnlyA K C CB CN H os rs Q E (.ref a)
  | nt {v : V} {d : PyData} (h : Dt K H v d) (t : isTy "tuple" d = false) (b : Bad E CB H) : OnlyA K C CB CN H os rs Q E v
  | tup {v : V} {ds : List PyData} (h : Dt K H v (.tuple ds)) (g : Gd 7 (.tuple ds)) (l : ds.length ≤ 100) (st : ∀ x, PyData.str x ∈ ds → x.length ≤ 1000)
      (k1 : ds = [] ∨ ds.all isNameD = false → Bad E CB H)
      (k2 : ∀ xs : List Str, ds = xs.map PyData.str → xs ≠ [] → (∀ x ∈ xs, isNameS x = true) → unlike xs = false → Bad E CB H)
      (k3 : ∀ xs : List Str, ds = xs.map PyData.str → (∀ x ∈ xs, isNameS x = true) → unlike xs = true → ∀ i x, xs[i]? = some x → x ∉ os → (∀ y ∈ xs.take i, y ∈ os) → ∀ d H', Same H H' → H' d = some (.xd [("name", .str x)]) → E (.ref CN) (some d) H')
      (k4 : ∀ xs : List Str, ds = xs.map PyData.str → xs ≠ [] → (∀ x ∈ xs, isNameS x = true) → unlike xs = true → (∀ x ∈ xs, x ∈ os) → ∀ v H', Same H H' → Pl K C H' v (keptO os xs) (keptR (keptO os xs) rs) → Q v H') : OnlyA K C CB CN H os rs Q E v
def spOnly (K : PySem.W.Frag) (C CB CN : Addr) : Sp := fun vs H Q E => ∃ (v1 v : V) (os : List Str) (rs : List (Bal × Int)), vs = [v1, v] ∧ Pl K C H v1 os rs ∧ OkO os ∧ (∀ x ∈ rs, OkR os x) ∧ rs.length ≤ 30 ∧ OnlyA K C CB CN H os rs Q E v
theorem names_all : ∀ {ds : List PyData}, ds.all isNameD = true → ∃ xs : List Str, ds = xs.map PyData.str ∧ ∀ x ∈ xs, isNameS x = true
  | [], _ => ⟨[], rfl, fun x h => nomatch h⟩
  | d :: ds, h => by
    rw [List.all_cons, Bool.and_eq_true] at h
    obtain ⟨xs, e, k⟩ := names_all h.2
    cases d with
    | str x =>
      refine ⟨x :: xs, by rw [e, List.map_cons], fun y hy => ?_⟩
      rcases List.mem_cons.mp hy with rfl | hy
      · exact h.1
      · exact k y hy
    | _ => exact absurd h.1 (by simp [isNameD])
/-! the cut data are good -/
theorem someOf_all {xs os : List Str} (h : ∀ x ∈ xs, x ∈ os) : someOf xs os = true := List.all_eq_true.mpr fun x hx => decide_eq_true (h x hx)
theorem okN_of {os xs : List Str} (h : ∀ x ∈ xs, x ∈ os) (u : xs.Nodup) (l : xs.length ≤ 100) : OkN os xs := ⟨someOf_all h, (unlike_iff xs).mpr u, l⟩
theorem okO_kept {os xs : List Str} (o : OkO os) (ne : xs ≠ []) (h : ∀ x ∈ xs, x ∈ os) : OkO (keptO os xs) := by
  refine ⟨?_, Nat.le_trans (List.length_filter_le ..) o.most, fun x hx => o.name x (List.mem_filter.mp hx).1, (unlike_iff _).mpr (((unlike_iff os).mp o.unl).filter _)⟩
  cases xs with
  | nil => exact absurd rfl ne
  | cons x r => exact List.length_pos_of_mem (List.mem_filter.mpr ⟨h x (List.mem_cons_self ..), decide_eq_true (List.mem_cons_self ..)⟩)
theorem cut_flat (ks : List Str) : ∀ ts : List (List Str), (((ts.map fun t => t.filter fun x => decide (x ∈ ks)).filter fun t => decide (t ≠ []))).flatten = ts.flatten.filter fun x => decide (x ∈ ks)
  | [] => rfl
  | t :: r => by
    rw [List.map_cons, List.flatten_cons, List.filter_append, ← cut_flat ks r]
    by_cases e : t.filter (fun x => decide (x ∈ ks)) = []
    · rw [List.filter_cons_of_neg (by simp [e]), e, List.nil_append]
    · rw [List.filter_cons_of_pos (by simpa using e), List.flatten_cons]
theorem okB_cut {os ks : List Str} {b : Bal} (h : OkB os b) : OkB ks (cutB ks b) := by
  cases h with
  | @ord ts h ne m =>
    refine .ord ?_ (fun t ht => of_decide_eq_true (List.mem_filter.mp ht).2) (Nat.le_trans (List.length_filter_le ..) (by rwa [List.length_map]))
    rw [cut_flat]
    exact okN_of (fun x hx => of_decide_eq_true (List.mem_filter.mp hx).2) (((unlike_iff _).mp h.unl).filter _) (Nat.le_trans (List.length_filter_le ..) h.most)
  | @lets ns h => exact .lets (okN_of (fun x hx => of_decide_eq_true (List.mem_filter.mp hx).2) (((unlike_iff _).mp h.unl).filter _) (Nat.le_trans (List.length_filter_le ..) h.most))
  | @marks ps h m =>
    have e : (ps.filter fun p => decide (p.1 ∈ ks)).map (·.1) = (ps.map (·.1)).filter fun x => decide (x ∈ ks) := by
      rw [List.filter_map]
      rfl
    refine .marks ?_ fun p hp => m p (List.mem_filter.mp hp).1
    rw [e]
    exact okN_of (fun x hx => of_decide_eq_true (List.mem_filter.mp hx).2) (((unlike_iff _).mp h.unl).filter _) (Nat.le_trans (List.length_filter_le ..) h.most)
theorem okR_cut {os ks : List Str} {rs : List (Bal × Int)} (h : ∀ x ∈ rs, OkR os x) : ∀ x ∈ keptR ks rs, OkR ks x := fun x hx => by
  obtain ⟨r, hr, rfl⟩ := List.mem_map.mp hx
  exact ⟨okB_cut (h r hr).bal, (h r hr).lo, (h r hr).hi⟩
theorem name_len {x : Str} (h : isNameS x = true) : x.length ≤ 8 := by
  simp only [isNameS, Bool.and_eq_true, decide_eq_true_eq] at h
  exact h.1.2
/-- ask_options may be called -/
structure AskP (P : Program) (w : World) (K : PySem.W.Frag) (mg : Str → Option Value) (base : Heap) (CN : Addr) : Prop where
  ex : ∃ (f : Addr) (fd : FuncData), FnOk P w K mg base (L2.CX P w) 3 f fd ["options", "names"] (spAsk K CN) ∧ mg "ask_options" = some (.ref f) ∧ PySem.W.keepIn K (.ref f) = true ∧ KBn K fd ["options", "names"] 1 ["names"] (fun us ws => us ++ ws) (fun vs zs => vs ++ zs)
section
variable {P : Program} {w : World} {K : PySem.W.Frag} {mg : Str → Option Value} {base : Heap} {C CB CN : Addr}
theorem e_ask {X : Cx} {j : Nat} {E : XK} {p pos kp : Pos} {e1 e2 : Expr} {t1 t2 : TE} (M : AskP X.prog X.w X.K X.mg X.base CN) (hr : Room j X.A) (hj : 3 ≤ j) (hx : Passes (L2.CX X.prog X.w) X E) (h1 : PE X e1 t1) (h2 : PE X e2 t2) (hg : Gl X "ask_options" := by rfl)
    (he : starEach [e1] X.env = (false, eval e1 X.env) :: starEach [] X.env := by rfl) (hall : (backToKw pos (keywordEach [⟨some "names", e2, kp⟩] X.env)).all (·.1.isSome) = true := by rfl) (hks : (backToKw pos (keywordEach [⟨some "names", e2, kp⟩] X.env)).filterMap (·.1) = (["names"] : List Str) := by rfl)
    (hpl : ((backTo pos (starEach [e1] X.env)).any (·.1) || (backToKw pos (keywordEach [⟨some "names", e2, kp⟩] X.env)).any (·.1.isNone)) = false := by rfl) :
    PE X (.Call (.Name "ask_options" p) [e1] [⟨some "names", e2, kp⟩] pos) (tCallN 1 1 (spAsk X.K CN) (fun vs zs => vs ++ zs) E (tCons t1 tNil) (tCons t2 tNil)) := by
  obtain ⟨f, fd, F, m, kpf, b⟩ := M.ex
  exact pe_callN F (hr.mono hj) hg m kpf b hx (pa_cons h1 pa_nil he) (pk_cons h2 pk_nil) hall hks (by decide) he hpl
theorem isi_lst {H : Hp} {a : Addr} {ys : List V} {Q : VK} (h : H a = some (.lst ys)) (q : Q (.bl false) H) : IsiR K [.ref a, .ty "tuple"] H Q := ⟨.ref a, .ty "tuple", _, _, false, rfl, .ty "tuple", .base (.lst h), kit_ty (show kitB "list" "tuple" = some false by decide +kernel), q⟩
theorem scO : FnScope ["self", "names", "kept", "one", "name", "ballot", "many"] ["self", "names"] (defScope (cP 6)) := ⟨rfl, rfl, rfl, by decide +kernel, rfl, by decide +kernel, by decide +kernel⟩
theorem ok_only {f : Addr} {fd : FuncData} (F : Fun K "only" "Poll.only" (cP 6) f fd) (B : Bt mg) (T : PolC K mg C) (G : BadC P w K mg base CB) (M : MakP P w K mg base C CB) (Ak : AskP P w K mg base CN)
    (Un : C8.Cal P w K mg base 1 "is_name" (spName K) []) (Uu : C8.Cal P w K mg base 1 "are_unlike" (spUnlike K) []) (Uc : C8.Cal P w K mg base 1 "ballot_without" (spCut K) []) : FnOk P w K mg base (L2.CX P w) 8 f fd ["self", "names"] (spOnly K C CB CN) := by
  refine F.okX scO (fun vs H Q E h => ?_) (fun cdv A outer s H vs Q E hr h => ?_)
  · obtain ⟨v1, v, os, rs, rfl, _⟩ := h
    rfl
  · obtain ⟨v1, v, os, rs, rfl, hl, oo, hR, hz, ar⟩ := h
    obtain ⟨p, dx, o, r, rfl, hp, ho, hv⟩ := hl.ex
    refine ⟨_, pss_cons (ps_if (PW.pt (pw_or (pt_not (pt_val (e_isi (K := K) B.isi (pv 1) (e_ty "tuple" B.tyTup)))) (pw_or (pt_cmpR (o_eq (K := K) hr) (pv 1) (pe_tup pa_nil) (nomark _))
            (pw_or1 (pt_not (pt_val (e_all (K := K) B.all rfl (pe_lc (own := [("one", 3)]) rfl scO.nd (i_tup (K := K) (pv 1)) (blkOk_by (N := ["self", "names", "kept", "one", "name", "ballot", "many"]) (sc := defScope (cP 6)) (by decide +kernel)) (fun _ _ _ _ _ => pg_name (i := 3) scO.nd rfl (Or.inl rfl)) (fun _ _ _ _ _ => pts_nil)
              (fun _ _ _ _ _ => C8.pe_c Un hr (by decide) (by rfl) (pa_cons (pv 3) pa_nil))))))))))
        (pss_one (ps_bad G hr (by decide) pe_str (takes_of rfl rfl rfl rfl))) pss_nil)
      (pss_cons (ps_if (pt_not (pt_val (C8.pe_c Uu hr (by decide) (by rfl) (pa_cons (pv 1) pa_nil))))
        (pss_one (ps_bad G hr (by decide) pe_str (takes_of rfl rfl rfl rfl))) pss_nil)
      (pss_cons (ps_expr (e_ask (E := E) Ak hr (by decide) (passes_call (takes_of (E := E) rfl rfl rfl rfl) fun _ _ _ _ z => z) (pe_fld (pv 0) rfl) (e_list (K := K) B.tyLst (pv 1))))
      (pss_cons (ps_set (i := 2) scO.nd rfl (Or.inr rfl) (pe_lc (own := [("name", 4)]) rfl scO.nd (i_tup (K := K) (pe_fld (pv 0) rfl)) (blkOk_by (N := ["self", "names", "kept", "one", "name", "ballot", "many"]) (sc := defScope (cP 6)) (by decide +kernel))
          (fun _ _ _ _ _ => pg_name (i := 4) scO.nd rfl (Or.inl rfl)) (fun _ _ _ _ _ => pts_one (pt_cmpR (o_in (K := K)) (pv 4) (pv 1) (by rfl))) (fun _ _ _ _ _ => pv 4)))
      (pss_one (ps_ret (e_poll (E := E) M hr (by decide) (passes_call (takes_of (E := E) rfl rfl rfl rfl) fun _ _ _ _ z => z)
        (pa_cons (e_tuple (K := K) B.tyTup (pv 2)) (pa_cons (e_tuple (K := K) B.tyTup (pe_lc (own := [("ballot", 5), ("many", 6)]) rfl scO.nd (i_tup (K := K) (pe_fld (pv 0) rfl)) (blkOk_by (N := ["self", "names", "kept", "one", "name", "ballot", "many"]) (sc := defScope (cP 6)) (by decide +kernel))
          (fun _ _ _ _ _ => g_tup (K := K) (n := 2) rfl (by exact pgs_cons (pg_name (i := 5) scO.nd rfl (Or.inl rfl)) (pgs_cons (pg_name (i := 6) scO.nd rfl (Or.inl rfl)) pgs_nil))) (fun _ _ _ _ _ => pts_nil)
          (fun _ _ _ _ _ => pe_tup (pa_cons (C8.pe_c Uc hr (by decide) (by rfl) (pa_cons (pv 5) (pa_cons (pv 2) pa_nil))) (pa_cons (pv 6) pa_nil))))) pa_nil)))))))), ?_⟩
    cases ar with
    | @lst a ys h b => exact ⟨_, rfl, isi_lst h ⟨_, rfl, iteT (iteT b)⟩⟩
    | @nt v d h t b =>
      refine ⟨_, rfl, isi_tup h ?_⟩
      rw [t]
      exact ⟨_, rfl, iteT (iteT b)⟩
    | @tup v ds h g l st k1 k2 k3 k4 =>
      have h0 := h
      obtain ⟨a, xs, rfl, ha, hd⟩ := h.tup_inv
      have hlen := hd.length
      refine ⟨_, rfl, isi_isTup h0 ⟨_, rfl, iteF ?_⟩⟩
      refine ⟨_, rfl, Nat.zero_le _, fun q hq => ?_⟩
      have s1 : Same H (upd H q (.tup [])) := L2.Same.put hq
      refine eq_d (h0.same s1) (.new upd_same .nil) (g.fit (by decide)) ((gd_tup (n := 0) (ds := []) fun _ h => nomatch h).fit (by decide)) (fun z => ?_) fun z => ?_
      · have e1 : ds = [] := by
          cases ds with
          | nil => rfl
          | cons y r =>
            rw [real, reals, real, reals] at z
            cases z
        exact ⟨_, rfl, iteT (iteT fun d H' s' => k1 (.inl e1) d H' (s1.trans s'))⟩
      · have ne1 : ds ≠ [] := fun e => z (by rw [e])
        refine ⟨_, rfl, iteF ?_⟩
        refine ⟨_, rfl, a, rfl, ⟨_, same_t s1 ha⟩, fun D hD => lc_b ds isNameD (hlen ▸ walk_tup (K := K) (a := a) (xs := xs)) hD (Nat.lt_of_le_of_lt l (by decide)) (fun H2 s2 => same_t (s1.trans s2) ha) ?_ fun H2 s2 hy => all_b hy ?_⟩
        · rintro i y x H2 H3 hx s2 ⟨rfl, hy⟩
          obtain ⟨d, hd1, hd2⟩ := hd.get hy
          rw [hx] at hd1
          cases hd1
          refine ⟨Same.refl _, fun A hA => ⟨rfl, _, rfl, x, y, rfl, hd2.same (s1.trans s2), fun z e => st z ?_, fun H' s' => hA _ s'⟩⟩
          rw [← e]
          exact List.mem_of_getElem? hx
        · refine ⟨_, rfl, ?_⟩
          have sm := s1.trans s2
          have e2 : (ds.map isNameD).all id = ds.all isNameD := by rw [List.all_map]; rfl
          rw [e2]
          cases e3 : ds.all isNameD with
          | false => exact iteT fun d H' s' => k1 (.inr e3) d H' (sm.trans s')
          | true =>
            refine iteF ?_
            obtain ⟨ns, rfl, hn⟩ := names_all e3
            have nne : ns ≠ [] := fun e => ne1 (by rw [e]; rfl)
            obtain rfl := hd.to_strs
            rw [List.length_map] at l
            refine ⟨_, rfl, .ref a, ns, rfl, ⟨a, rfl, .inr (same_t sm ha)⟩, by omega, fun H3 s3 => ⟨_, rfl, ?_⟩⟩
            have sm3 := sm.trans s3
            cases eu : unlike ns with
            | false => exact iteT fun d H' s' => k2 ns rfl nne hn eu d H' (sm3.trans s')
            | true =>
              refine iteF ?_
              refine ⟨_, rfl, p, C, dx, _, o, rfl, sm3 _ _ hp, T.cls, T.nO, rfl, _, rfl, lst_s (.inr (same_t sm3 ha)) fun l1 H4 s4 _ h4 => ⟨rfl, rfl, ?_⟩⟩
              have sm4 := sm3.trans s4
              refine ⟨o, l1, os, ns, rfl, ho.same sm4, SqL.of h4, by omega, fun hin => ?_, fun i x hx hxo hy d H' s' hd' => k3 ns rfl hn eu i x hx hxo hy d H' (sm4.trans s') hd'⟩
              obtain ⟨ao, rfl, hao⟩ := ho.names_inv
              have lo : (os.map V.str).length = os.length := List.length_map ..
              have wo : Walk (Itt K ao) os.length (fun H => SqT K H ao (os.map V.str)) (YAt (os.map V.str)) := lo ▸ walk_tup (K := K) (a := ao) (xs := os.map V.str)
              have o6 := oo.most
              refine ⟨_, rfl, p, C, dx, _, _, rfl, sm4 _ _ hp, T.cls, T.nO, rfl, ao, rfl, ⟨_, same_t sm4 hao⟩, fun D2 hD2 => lc_d (K := K) os (fun x => if x ∈ ns then some (PyData.str x) else none) wo hD2 (Nat.lt_of_le_of_lt o6 (by decide)) (fun H5 s5 => same_t (sm4.trans s5) hao) ?_ fun H5 us s5 hu5 hd5 => ?_⟩
              · rintro j c x H5 H6 hc s5 ⟨rfl, hx⟩
                obtain rfl := str_item hc hx
                refine ⟨Same.refl _, fun A N hA hN => ⟨rfl, _, rfl, _, rfl, in_s (xs := ns) (.inr (same_t (sm4.trans s5) ha)) ⟨_, rfl, ?_⟩⟩⟩
                by_cases e : c ∈ ns
                · exact ifD e ⟨_, rfl, hA _ _ _ (if_pos e) (Same.refl _) (.str c)⟩
                · rw [decide_eq_false e]
                  exact iteF (hN _ (if_neg e) (Same.refl _))
              · rw [filterMap_if (fun x : Str => x ∈ ns) PyData.str] at hd5
                have sm5 := sm4.trans s5
                have hus := hd5.to_strs
                refine ⟨_, rfl, tup_d hu5 hd5 fun vo H6 s6 ho6 => ?_⟩
                have sm6 := sm5.trans s6
                obtain ⟨av, xv, rfl, hav, hdv⟩ := dV_inv hv
                have lv := hdv.length
                rw [List.length_map] at lv
                refine ⟨_, rfl, p, C, dx, _, _, rfl, sm6 _ _ hp, T.cls, T.nV, rfl, av, rfl, ⟨_, same_t sm6 hav⟩, fun D3 hD3 => lc_m (K := K) rs (fun r => dR (cutB (keptO os ns) r.1, r.2)) (lv ▸ walk_tup (K := K) (a := av) (xs := xv)) hD3 (bad_len (by omega)) (fun H7 s7 => same_t (sm6.trans s7) hav) ?_ fun H7 ys s7 hy7 hd7 => ?_⟩
                · rintro j c x H7 H8 hc s7 ⟨rfl, hx⟩
                  obtain ⟨d, hd1, hd2⟩ := hdv.get hx
                  rw [List.getElem?_map, hc] at hd1
                  cases hd1
                  obtain ⟨b, y, rfl, hb, hyb⟩ := row_inv (hd2.same (sm6.trans s7))
                  refine ⟨Same.refl _, fun A hA => ⟨b, _, rfl, hb, rfl, _, _, rfl, _, _, rfl, rfl, rfl, ?_⟩⟩
                  refine ⟨_, rfl, _, rfl, y, .ref D2, c.1, keptO os ns, os, rfl, hyb, ⟨D2, rfl, .inl ?_⟩, oo, (hR c (List.mem_of_getElem? hc)).bal, fun v' H9 s9 hb9 => ?_⟩
                  · refine (s6.trans s7).seq ?_
                    rw [hus] at hu5
                    exact SqL.of hu5
                  · refine ⟨_, rfl, Nat.le_of_ble_eq_true rfl, fun t ht => hA _ _ (s9.trans (L2.Same.put ht)) (.new upd_same (.cons (hb9.same (L2.Same.put ht)) (.cons (.int _) .nil)))⟩
                · have e4 : (rs.map fun r => dR (cutB (keptO os ns) r.1, r.2)) = (keptR (keptO os ns) rs).map dR := by
                    rw [keptR, List.map_map]
                    rfl
                  rw [e4] at hd7
                  refine tup_d hy7 hd7 fun vr H8 s8 hr8 => ?_
                  have sm8 := sm6.trans (s7.trans s8)
                  refine mk_poll ((ho6.same s7).same s8) (okO_kept oo nne hin) hr8 (okR_cut hR) (by rw [keptR, List.length_map]; omega) (fun h30 v' H' s' hl' => ?_) fun h30 d H' s' => ?_
                  · exact k4 ns rfl nne hn eu hin v' H' (sm8.trans s') hl'
                  · rw [keptR, List.length_map] at h30
                    omega
end
end VF
set_option maxHeartbeats 4000000
/-! ## V. dicts whose keys are tiers -/
namespace VF
open PySem L2 PySem.Spec PyProof.Rows
def nkN (xs : List Str) : NestedKey := .tup (xs.map NestedKey.text)
/-- tiers as a key -/
def nk (ts : List (List Str)) : NestedKey := .tup (ts.map nkN)
theorem map_inj' {α β : Type} {f : α → β} (h : ∀ a b, f a = f b → a = b) : ∀ {xs ys : List α}, xs.map f = ys.map f → xs = ys
  | [], [], _ => rfl
  | [], _ :: _, e => by simp at e
  | _ :: _, [], e => by simp at e
  | x :: xs, y :: ys, e => by
    rw [List.map_cons, List.map_cons, List.cons.injEq] at e
    rw [h _ _ e.1, map_inj' h e.2]
theorem nkN_inj {xs ys : List Str} (h : nkN xs = nkN ys) : xs = ys := map_inj' (fun a b e => NestedKey.text.inj e) (NestedKey.tup.inj h)
theorem nk_inj {xs ys : List (List Str)} (h : nk xs = nk ys) : xs = ys := map_inj' (fun a b e => nkN_inj e) (NestedKey.tup.inj h)
theorem nkDepthAll {n : Nat} : ∀ {ks : List NestedKey}, (∀ k ∈ ks, k.depth ≤ n) → NestedKey.depthAll ks ≤ n
  | [], _ => Nat.zero_le _
  | k :: r, h => by
    simp only [NestedKey.depthAll]
    exact Nat.max_le.mpr ⟨h k (List.mem_cons_self ..), nkDepthAll fun e he => h e (List.mem_cons_of_mem _ he)⟩
theorem nk_depth (ts : List (List Str)) : (nk ts).depth ≤ 8 := by
  have h : (nk ts).depth ≤ 2 := by
    unfold nk
    simp only [NestedKey.depth]
    refine Nat.succ_le_succ (nkDepthAll fun k hk => ?_)
    obtain ⟨t, _, rfl⟩ := List.mem_map.mp hk
    unfold nkN
    simp only [NestedKey.depth]
    refine Nat.succ_le_succ (nkDepthAll fun k hk => ?_)
    obtain ⟨x, _, rfl⟩ := List.mem_map.mp hk
    simp only [NestedKey.depth]
    exact Nat.le_refl _
  omega
theorem reads_strs {h : Heap} : ∀ {xs : List Str} {us : List Value} {as : List Addr}, ReadsAll h us (xs.map PyData.str) as → NestedAll h (xs.map NestedKey.text) us
  | [], us, as, r => by
    cases r
    exact .nil
  | x :: xs, us, as, r => by
    rw [List.map_cons] at r
    cases r with
    | cons r1 r2 =>
      cases r1
      exact .cons (.text _ _) (reads_strs r2)
theorem reads_nkN {h : Heap} {xs : List Str} {u : Value} {as : List Addr} (r : Reads h u (dN xs) as) : NestedIs h (nkN xs) u := by
  unfold dN at r
  cases r with
  | tuple h1 h2 h3 h4 => exact .tup h1 h2 h3 (reads_strs h4)
theorem reads_nks {h : Heap} : ∀ {ts : List (List Str)} {us : List Value} {as : List Addr}, ReadsAll h us (ts.map dN) as → NestedAll h (ts.map nkN) us
  | [], us, as, r => by
    cases r
    exact .nil
  | t :: ts, us, as, r => by
    rw [List.map_cons] at r
    cases r with
    | cons r1 r2 => exact .cons (reads_nkN r1) (reads_nks r2)
theorem reads_nk {h : Heap} {ts : List (List Str)} {u : Value} {as : List Addr} (r : Reads h u (dT ts) as) : NestedIs h (nk ts) u := by
  unfold dT at r
  cases r with
  | tuple h1 h2 h3 h4 => exact .tup h1 h2 h3 (reads_nks h4)
theorem real_dT (ts : List (List Str)) : real (dT ts) = dT ts := by
  unfold dT
  rw [real, reals_map, List.map_map]
  congr 1
  exact List.map_congr_left fun t _ => real_dN t
/-! the plain dict -/
abbrev Tally := List (List (List Str) × Int)
def tval (m : Tally) (k : List (List Str)) : Option Int := (m.find? fun p => decide (p.1 = k)).map (·.2)
def tput (m : Tally) (k : List (List Str)) (v : Int) : Tally := if (tval m k).isSome then m.map (fun p => if p.1 = k then (p.1, v) else p) else m ++ [(k, v)]
/-- an entry of the dict and the pair that it is -/
def EntR (K : PySem.W.Frag) (H : Hp) (x : NestedKey × Addr × Value) (p : List (List Str) × Int) : Prop := x.1 = nk p.1 ∧ Dt K H (.ref x.2.1) (dT p.1) ∧ ∃ t, x.2.2 = .int p.2 t
def dob (d : Addr) (o : Obj) : HO := .ext fun h => h.get? d = some o
/-- at d: a dict of these pairs -/
structure Nd (P : Program) (w : World) (K : PySem.W.Frag) (H : Hp) (d : Addr) (m : Tally) : Prop where
  ex : ∃ (o : Obj) (es : Array DictEntry) (ep : Nat) (xs : List (NestedKey × Addr × Value)), H d = some (dob d o) ∧ o.ExactDict ∧ o.data = .dict es ep ∧ es.toList = xs.map (entryOfKey (nestedKind P w)) ∧ (xs.map (·.1)).Nodup ∧ (d == sysModules) = false ∧ Paired (EntR K H) xs m
theorem EntR.same {K : PySem.W.Frag} {H H' : Hp} {x : NestedKey × Addr × Value} {p : List (List Str) × Int} (s : Same H H') (h : EntR K H x p) : EntR K H' x p := ⟨h.1, h.2.1.same s, h.2.2⟩
theorem Nd.same {P : Program} {w : World} {K : PySem.W.Frag} {H H' : Hp} {d : Addr} {m : Tally} (h : Nd P w K H d m) (s : Same H H') : Nd P w K H' d m := by
  obtain ⟨o, es, ep, xs, h1, h2, h3, h4, h5, h6, h7⟩ := h.ex
  exact ⟨o, es, ep, xs, s _ _ h1, h2, h3, h4, h5, h6, L2.Paired.mapP h7 fun a b r => r.same s⟩
theorem paired_at {α β : Type} {F : α → β → Prop} : ∀ {l : List α} {r : List β}, Paired F l r → ∀ {i : Nat} {b : β}, r[i]? = some b → ∃ a, l[i]? = some a ∧ F a b
  | _, _, .nil, i, b, e => by simp at e
  | _, _, .cons (a := a) q t, i, b, e => by
    cases i with
    | zero =>
      simp only [List.getElem?_cons_zero, Option.some.injEq] at e
      subst e
      exact ⟨a, rfl, q⟩
    | succ j =>
      simp only [List.getElem?_cons_succ] at e ⊢
      exact paired_at t e
section
variable {K : PySem.W.Frag} {H : Hp}
theorem ent_at {xs : List (NestedKey × Addr × Value)} {m : Tally} (h : Paired (EntR K H) xs m) (k : List (List Str)) :
    (∀ v, tval m k = some v → ∃ a t, atKey xs (nk k) = some (a, .int v t)) ∧ (tval m k = none → atKey xs (nk k) = none) := by
  induction h with
  | nil => exact ⟨fun v e => (by cases e), fun _ => rfl⟩
  | @cons x p l₁ l₂ q t ih =>
    obtain ⟨e1, e2, t0, e3⟩ := q
    by_cases e : p.1 = k
    · have ek : x.1 = nk k := by rw [e1, e]
      refine ⟨fun v hv => ?_, fun hv => ?_⟩
      · have : tval (p :: l₂) k = some p.2 := by simp [tval, List.find?, e]
        rw [this] at hv
        cases hv
        refine ⟨x.2.1, t0, ?_⟩
        simp [atKey, List.find?, ek, ← e3]
      · have : tval (p :: l₂) k = some p.2 := by simp [tval, List.find?, e]
        rw [this] at hv
        cases hv
    · have ek : x.1 ≠ nk k := fun z => e (nk_inj (e1.symm.trans z))
      have h1 : tval (p :: l₂) k = tval l₂ k := by simp [tval, List.find?, e]
      have h2 : atKey (x :: l₁) (nk k) = atKey l₁ (nk k) := by simp [atKey, List.find?, ek]
      rw [h1, h2]
      exact ih
theorem ent_put {xs : List (NestedKey × Addr × Value)} {m : Tally} {k : List (List Str)} {a : Addr} {v : Int} {t : Tok} (h : Paired (EntR K H) xs m) (hk : Dt K H (.ref a) (dT k)) : Paired (EntR K H) (storedH xs (nk k) a (.int v t)) (tput m k v) := by
  obtain ⟨q1, q2⟩ := ent_at h k
  cases e : tval m k with
  | none =>
    rw [storedH_new (q2 e)]
    unfold tput
    rw [e]
    exact h.snoc ⟨rfl, hk, t, rfl⟩
  | some i =>
    obtain ⟨b, t1, e1⟩ := q1 i e
    rw [storedH_old e1]
    unfold tput
    rw [e]
    show Paired _ _ (m.map _)
    clear q1 q2 e e1
    induction h with
    | nil => exact .nil
    | @cons x p l₁ l₂ q t2 ih =>
      refine .cons ?_ ih
      obtain ⟨f1, f2, f3⟩ := q
      by_cases e : p.1 = k
      · have ek : x.1 = nk k := by rw [f1, e]
        simp only [putAt, if_pos ek, if_pos e]
        exact ⟨f1, f2, t, rfl⟩
      · have ek : x.1 ≠ nk k := fun z => e (nk_inj (f1.symm.trans z))
        simp only [putAt, if_neg ek, if_neg e]
        exact ⟨f1, f2, f3⟩
end
section
variable {X : Cx} {pins : List (Addr × Obj)} {σ : L2.St} {H : Hp} {s : Shared} {d : Addr} {m : Tally}
theorem nest_of {v : V} {u : Value} {ts : List (List Str)} (I : Inv X pins σ H s) (h : Dt X.K H v (dT ts)) (r : RelV v u) : NestedIs s.heap (nk ts) u := by
  have q := h.dp
  rw [real_dT] at q
  obtain ⟨as, q2⟩ := Dp.reads I _ _ _ q r
  exact reads_nk q2
theorem nd_of (I : Inv X pins σ H s) (h : Nd X.prog X.w X.K H d m) : ∃ xs, s.heap.DictOfH (nestedKind X.prog X.w) d xs ∧ Paired (EntR X.K H) xs m ∧ (d == sysModules) = false ∧ ∀ b, Value.ref d = .ref b → ∃ ob, s.heap.get? b = some ob ∧ ob.dict = none := by
  obtain ⟨o, es, ep, xs, h1, h2, h3, h4, h5, h6, h7⟩ := h.ex
  have ok : ObjOk X.prog X.w H s.heap d (.ext fun h => h.get? d = some o) := I.hok d _ h1
  have hd : s.heap.get? d = some o := ok.1
  refine ⟨xs, ⟨o, es, ep, hd, h2, h3, h4, fun x hx => ?_, h5⟩, h7, h6, fun b e => ?_⟩
  · obtain ⟨i, hi, rfl⟩ := List.mem_iff_getElem.mp hx
    have hl : xs.length = m.length := Paired.length h7
    have hm : m[i]? = some (m[i]'(by omega)) := List.getElem?_eq_getElem (by omega)
    obtain ⟨y, e1, e2, e3, _⟩ := paired_at h7 hm
    rw [List.getElem?_eq_getElem hi] at e1
    cases e1
    refine ⟨?_, ?_⟩
    · rw [e2]
      exact nest_of I e3 rfl
    · rw [e2]
      exact nk_depth _
  · cases e
    exact ⟨o, hd, h2.2.1⟩
/-- it becomes another dict -/
theorem nd_write {h' : Heap} {t' : Nat} {m' : Tally} {xs' : List (NestedKey × Addr × Value)} (I : Inv X pins σ H s) (h : Nd X.prog X.w X.K H d m) (hm : h'.DictOfH (nestedKind X.prog X.w) d xs') (hs : Heap.SameBut d s.heap h') (r : Paired (EntR X.K H) xs' m') :
    ∃ o', Inv X pins σ (upd H d (dob d o')) { s with heap := h', toks := t' } ∧ Nd X.prog X.w X.K (upd H d (dob d o')) d m' := by
  obtain ⟨o, es, ep, xs, h1, h2, h3, h4, h5, h6, h7⟩ := h.ex
  obtain ⟨o', es', ep', k1, k2, k3, k4, k5, k6⟩ := hm
  have tk : Tk X.K H (upd H d (dob d o')) := Tk.upd (by rw [h1]; exact Soft.ext)
  refine ⟨o', d_write I (by rw [h1]; exact True.intro) hs ⟨_, k1⟩ ⟨k1, ⟨_, k1⟩, fun h1 h2 z k => k _ z⟩, o', es', ep', xs', upd_same, k2, k3, k4, k6, h6, L2.Paired.mapP r fun a b q => ⟨q.1, q.2.1.mono tk, q.2.2⟩⟩
/-- the room that such a key asks -/
theorem nd_room {A : Around} {k : Nat} (hr : Room k A) : (nestedKind X.prog X.w).room A.in1 := by
  have h := hr.units
  show A.units + 1 + 8 < cLine
  omega
end
/-! rules -/
/-- {} whose keys will be tiers -/
def tNdNew (P : Program) (w : World) (K : PySem.W.Frag) : TE := fun _ H Q => ∀ p H', H p = none → Same H H' → Nd P w K H' p [] → Q (.ref p) H'
/-- d[k] = v -/
structure NdSetR (P : Program) (w : World) (K : PySem.W.Frag) (o i v : V) (H : Hp) (Q : Hp → Prop) : Prop where
  ok : ∃ (d : Addr) (m : Tally) (ts : List (List Str)) (n : Int), o = .ref d ∧ v = .int n ∧ Nd P w K H d m ∧ Dt K H i (dT ts) ∧ m.length ≤ 1000 ∧ ∀ H', (∀ b u, b ≠ d → H b = some u → H' b = some u) → Nd P w K H' d (tput m ts n) → Q H'
/-- d.get(k), d.get(k, x) -/
def tNdGet1 (P : Program) (w : World) (K : PySem.W.Frag) (td ty : TE) : TE := fun σ H Q => td σ H fun x H1 => ∃ (d : Addr) (m : Tally), x = .ref d ∧ Nd P w K H1 d m ∧ ty σ H1 fun y H2 => Nd P w K H2 d m ∧ ∃ ts, Dt K H2 y (dT ts) ∧ Q (match tval m ts with | some v => .int v | none => .non) H2
def tNdGet2 (P : Program) (w : World) (K : PySem.W.Frag) (td ty tz : TE) : TE := fun σ H Q => td σ H fun x H1 => ∃ (d : Addr) (m : Tally), x = .ref d ∧ Nd P w K H1 d m ∧ ty σ H1 fun y H2 => tz σ H2 fun z H3 => ∃ n, z = .int n ∧ Nd P w K H3 d m ∧ ∃ ts, Dt K H3 y (dT ts) ∧ Q (.int ((tval m ts).getD n)) H3
/-- len(d) -/
structure NdLenR (P : Program) (w : World) (K : PySem.W.Frag) (xs : List V) (H : Hp) (Q : VK) : Prop where
  ok : ∃ (d : Addr) (m : Tally), xs = [.ref d] ∧ Nd P w K H d m ∧ m.length ≤ 1000 ∧ Q (.int m.length) H
section
variable {X : Cx} {o e f : Expr} {to te tz : TE} {pos apos cpos p : Pos} {k : Nat} {P : Program} {w : World} {K : PySem.W.Frag}
theorem pe_ndnew (hP : X.prog = P := by rfl) (hw : X.w = w := by rfl) (hK : X.K = K := by rfl) : PE X (.Dict [] [] pos) (tNdNew P w K) := by
  subst hP hw hK
  refine ⟨fun pins s σ H Q I h => wpAny_Dict_empty ⟨.ref s.heap.objs.size, _, I.laid (a := s.heap.objs.size) (o := dob s.heap.objs.size { cls := .type "dict", data := .dict #[] }) (t' := s.toks) (fun _ _ q => Heap.get?_push_of_some _ q) (Nat.le_refl _) ⟨Heap.get?_push_size _ rfl, ⟨_, Heap.get?_push_size _ rfl⟩, fun h1 h2 z k => k _ z⟩, rfl, ?_⟩⟩
  have hn : H s.heap.objs.size = none := I.hok.fresh (Nat.le_refl _)
  obtain ⟨o', es, ep, e1, e2, e3, e4, _, e5⟩ := Heap.DictOfH.new (knd := nestedKind X.prog X.w) s.heap
  have e1' : some ({ cls := .type "dict", data := .dict #[] } : Obj) = some o' := (Heap.get?_push_size s.heap rfl).symm.trans e1
  cases e1'
  exact h _ _ hn (L2.Same.put hn) ⟨_, es, ep, [], upd_same, e2, e3, e4, e5, beq_eq_false_iff_ne.mpr (Ne.symm (Nat.ne_of_lt I.big)), .nil⟩
theorem set_nd (hr : Room k X.A) (hP : X.prog = P := by rfl) (hw : X.w = w := by rfl) (hK : X.K = K := by rfl) : PSet X (NdSetR P w K) := by
  subst hP hw hK
  intro pins s σ H o i v ov iv u Q I ro ri rv h
  obtain ⟨d, m, ts, n, rfl, rfl, hd, hi, hl, q⟩ := h.ok
  obtain ⟨t, rfl⟩ := rv
  cases ro
  obtain ⟨a, ys, rfl, _, _⟩ := hi.tup_inv
  cases ri
  obtain ⟨xs, hm, pr, hs, _⟩ := nd_of I hd
  have lx : xs.length ≤ sizeLine := by
    rw [Paired.length pr]
    exact Nat.le_of_lt (Nat.lt_of_le_of_lt hl (by decide))
  refine wpAny_setItem_heap (hsz := lx) (nd_room hr) ⟨nest_of I hi rfl, nk_depth ts⟩ hm fun h' hm' hs' => ?_
  obtain ⟨o', I', nd⟩ := nd_write (t' := s.toks + (nestedKind X.prog X.w).draws (nk ts)) I hd hm' hs' (ent_put pr hi)
  exact ⟨_, I', q _ (fun b u hb e => by rw [upd_ne hb]; exact e) nd⟩
theorem pe_ndget1 (hr : Room k X.A) (ho : PE X o to) (he : PE X e te) (m : M1 X o "get" apos e cpos) (hP : X.prog = P := by rfl) (hw : X.w = w := by rfl) (hK : X.K = K := by rfl) : PE X (.Call (.Attribute o "get" apos) [e] [] cpos) (tNdGet1 P w K to te) := by
  subst hP hw hK
  refine ⟨fun pins s σ H Q I h => ?_⟩
  refine wpAny_Call_method m.base m.few m.line PySem.F.plainAttrs_dict PySem.F.slot_dict_get PySem.F.type_dict_get (thn (ho.run pins s σ H _ I h) fun u s1 ⟨x, H1, I1, rx, d, mm, ex, hd, q1⟩ => ?_)
  subst ex
  obtain rfl : u = Value.ref d := rx
  obtain ⟨xs, hm, pr, hs, nd⟩ := nd_of I1 hd
  refine ⟨hm.typeIs, nd, ?_⟩
  rw [m.trees]
  refine Calls.callWith_builtin rfl (Calls.evalArgs_plain (Calls.spliced_cons (thn (he.run pins s1 σ H1 _ I1 q1) fun iv s2 ⟨y, H2, I2, ry, hd2, ts, hy, q2⟩ => Calls.spliced_nil ?_)))
  obtain ⟨xs2, hm2, pr2, hs2, _⟩ := nd_of I2 hd2
  have hy0 := hy
  obtain ⟨a, ys, rfl, _, _⟩ := hy.tup_inv
  cases ry
  refine call_meetsIn PySem.F.slot_dict_get hm2.typeIs PySem.F.entry_dict_get (PySem.F.args_dict_get_2 _ _) (meetsH_dict_get (nestedKind X.prog X.w) d a hs2) ⟨nd_room hr, nk ts, xs2, ⟨nest_of I2 hy0 rfl, nk_depth ts⟩, hm2, _, _, I2.tok _, ?_, q2⟩
  obtain ⟨q3, q4⟩ := ent_at pr2 ts
  cases et : tval mm ts with
  | some v =>
    obtain ⟨a1, t1, e1⟩ := q3 v et
    rw [e1]
    exact ⟨t1, rfl⟩
  | none =>
    rw [q4 et]
    rfl
theorem pe_ndget2 (hr : Room k X.A) (ho : PE X o to) (he : PE X e te) (hf : PE X f tz) (m : M2 X o "get" apos e f cpos) (hP : X.prog = P := by rfl) (hw : X.w = w := by rfl) (hK : X.K = K := by rfl) : PE X (.Call (.Attribute o "get" apos) [e, f] [] cpos) (tNdGet2 P w K to te tz) := by
  subst hP hw hK
  refine ⟨fun pins s σ H Q I h => ?_⟩
  refine wpAny_Call_method m.base m.few m.line PySem.F.plainAttrs_dict PySem.F.slot_dict_get PySem.F.type_dict_get (thn (ho.run pins s σ H _ I h) fun u s1 ⟨x, H1, I1, rx, d, mm, ex, hd, q1⟩ => ?_)
  subst ex
  obtain rfl : u = Value.ref d := rx
  obtain ⟨xs, hm, pr, hs, nd⟩ := nd_of I1 hd
  refine ⟨hm.typeIs, nd, ?_⟩
  rw [m.trees]
  refine Calls.callWith_builtin rfl (Calls.evalArgs_plain (Calls.spliced_cons (thn (he.run pins s1 σ H1 _ I1 q1) fun iv s2 ⟨y, H2, I2, ry, q2⟩ =>
    Calls.spliced_cons (thn (hf.run pins s2 σ H2 _ I2 q2) fun fv s3 ⟨z, H3, I3, rz, n, ez, hd2, ts, hy, q3⟩ => Calls.spliced_nil ?_))))
  subst ez
  obtain ⟨tz, rfl⟩ := rz
  obtain ⟨xs2, hm2, pr2, hs2, _⟩ := nd_of I3 hd2
  have hy0 := hy
  obtain ⟨a, ys, rfl, _, _⟩ := hy.tup_inv
  cases ry
  refine call_meetsIn PySem.F.slot_dict_get hm2.typeIs PySem.F.entry_dict_get (PySem.F.args_dict_get_3 _ _ _) (meetsH_dict_get_default (nestedKind X.prog X.w) d a hs2 (.int n tz)) ⟨nd_room hr, nk ts, xs2, ⟨nest_of I3 hy0 rfl, nk_depth ts⟩, hm2, _, _, I3.tok _, ?_, q3⟩
  obtain ⟨q4, q5⟩ := ent_at pr2 ts
  cases et : tval mm ts with
  | some v =>
    obtain ⟨a1, t1, e1⟩ := q4 v et
    rw [e1]
    exact ⟨t1, rfl⟩
  | none =>
    rw [q5 et]
    exact ⟨tz, rfl⟩
end
end VF
set_option maxHeartbeats 4000000
/-! ## X. such a dict's length, its items -/
namespace VF
open PySem L2 PySem.Spec PyProof.Rows
/-- at d: the dict object o of these pairs -/
structure NdO (P : Program) (w : World) (K : PySem.W.Frag) (H : Hp) (d : Addr) (o : Obj) (m : Tally) : Prop where
  ex : ∃ (es : Array DictEntry) (ep : Nat) (xs : List (NestedKey × Addr × Value)), H d = some (dob d o) ∧ o.ExactDict ∧ o.data = .dict es ep ∧ es.toList = xs.map (entryOfKey (nestedKind P w)) ∧ (xs.map (·.1)).Nodup ∧ (d == sysModules) = false ∧ Paired (EntR K H) xs m
theorem Nd.o {P : Program} {w : World} {K : PySem.W.Frag} {H : Hp} {d : Addr} {m : Tally} (h : Nd P w K H d m) : ∃ o, NdO P w K H d o m := let ⟨o, q⟩ := h.ex; ⟨o, ⟨q⟩⟩
theorem NdO.n {P : Program} {w : World} {K : PySem.W.Frag} {H : Hp} {d : Addr} {o : Obj} {m : Tally} (h : NdO P w K H d o m) : Nd P w K H d m := ⟨o, h.ex⟩
theorem NdO.same {P : Program} {w : World} {K : PySem.W.Frag} {H H' : Hp} {d : Addr} {o : Obj} {m : Tally} (h : NdO P w K H d o m) (s : Same H H') : NdO P w K H' d o m := by
  obtain ⟨es, ep, xs, h1, h2, h3, h4, h5, h6, h7⟩ := h.ex
  exact ⟨es, ep, xs, s _ _ h1, h2, h3, h4, h5, h6, L2.Paired.mapP h7 fun a b r => r.same s⟩
/-- what a turn hands out: a new pair of a key's tuple and its number -/
def YNd (K : PySem.W.Frag) (m : Tally) (i : Nat) (H : Hp) (v : V) (H' : Hp) : Prop := ∃ (T : Addr) (k : List (List Str)) (n : Int) (a : Addr), m[i]? = some (k, n) ∧ v = .ref T ∧ H T = none ∧ H' = upd H T (.tup [.ref a, .int n]) ∧ Dt K H (.ref a) (dT k)
def Itn (P : Program) (w : World) (K : PySem.W.Frag) (d : Addr) (o : Obj) (m : Tally) : It :=
  ⟨fun i H => NdO P w K H d o m ∧ i < m.length, fun i H v H' => YNd K m i H v H', fun i H => NdO P w K H d o m ∧ m.length ≤ i⟩
theorem nd_entry {P : Program} {w : World} {K : PySem.W.Frag} {H : Hp} {es : Array DictEntry} {xs : List (NestedKey × Addr × Value)} {m : Tally} (he : es.toList = xs.map (entryOfKey (nestedKind P w))) (pr : Paired (EntR K H) xs m) :
    es.size = m.length ∧ ∀ i (hi : i < es.size), ∃ (k : List (List Str)) (n : Int) (a : Addr) (t : Tok), m[i]? = some (k, n) ∧ es[i].key = .ref a ∧ es[i].val = .int n t ∧ Dt K H (.ref a) (dT k) := by
  have l1 : es.size = xs.length := size_of_entries he
  have l2 : xs.length = m.length := Paired.length pr
  refine ⟨l1.trans l2, fun i hi => ?_⟩
  have hm : m[i]? = some (m[i]'(by omega)) := List.getElem?_eq_getElem (by omega)
  obtain ⟨x, e1, e2, e3, t, e4⟩ := paired_at pr hm
  have q := entry_at he i
  rw [Array.getElem?_eq_getElem hi, e1, Option.map_some] at q
  have q' := Option.some.inj q
  exact ⟨_, _, x.2.1, t, hm, by rw [q']; rfl, by rw [q']; exact e4, e3⟩
section
variable {P : Program} {w : World} {K : PySem.W.Frag} {d : Addr} {o : Obj} {m : Tally}
theorem turn_nd {elts : List Expr} {kk : Nat} {tpos : Pos} {es : Array DictEntry} {ep : Nat} (it : Addr) (hod : o.data = .dict es ep) :
    Turn P w K (.Tuple elts kk tpos) (Itn P w K d o m) [it] it (fun i h => ∃ ok ov, IsItemIter h it d i m.length ep ok ov) where
  mem := by simp
  obj := fun i h st b hb => by
    have e : b = it := by simpa using hb
    subst e
    obtain ⟨ok, ov, e⟩ := st
    exact ⟨_, e, fun v z => nomatch z⟩
  keep := fun i h h' st k => let ⟨ok, ov, e⟩ := st; ⟨ok, ov, k it (by simp) _ e⟩
  item := by
    intro X hP hw hK hc i pins s σ H E I hf st hg
    subst hP hw hK
    obtain ⟨hd, hi⟩ := hg
    obtain ⟨es', ep', xs, h1, h2, h3, h4, h5, h6, h7⟩ := hd.ex
    obtain ⟨rfl, rfl⟩ := dict_ep hod h3
    obtain ⟨hsz, ent⟩ := nd_entry h4 h7
    obtain ⟨ok, ov, he⟩ := st
    have okd : ObjOk X.prog X.w H s.heap d (.ext fun h => h.get? d = some o) := I.hok d _ h1
    have hdo : s.heap.get? d = some o := okd.1
    have hne : d ≠ it := fun z => by
      have q := (hf it (by simp)).1
      rw [← z, h1] at q
      cases q
    have hlt : it < s.heap.objs.size := Heap.lt_size he
    have W := GoesN.rawItems (prog := X.prog) (w := X.w) (A := X.A) (elts := elts) (x1 := kk) (pos := tpos) (I.ok.hd hc) it d hne es' ep'
    rw [← hsz] at he
    refine W.goes i s _ E (by omega) ⟨⟨ok, ov, he⟩, ⟨o, hdo, h2, h3⟩⟩ fun v h' tk hY st' hk htk => ?_
    obtain ⟨T, hi', rfl, hT0, hT⟩ := hY
    obtain ⟨⟨ok', ov', he'⟩, _⟩ := st'
    obtain ⟨k, n, a, t, em, ek, ev, dk⟩ := ent i hi'
    have new : ObjOk X.prog X.w (upd H T (.tup [.ref a, .int n])) h' T (.tup [.ref a, .int n]) := by
      refine ⟨by show 2 ≤ sizeLine; decide, [.ref a, .int n t], .cons rfl (.cons ⟨t, rfl⟩ .nil), ?_⟩
      rw [← ek, ← ev]
      exact hT
    have I1 : Inv X pins σ (upd H T (.tup [.ref a, .int n])) { s with heap := h', toks := tk } := I.turnedNew (ch := [it]) hk hf hT0 new
    refine ⟨.ref T, _, I1, rfl, ⟨T, k, n, a, em, rfl, I.hok.fresh hT0, rfl, dk⟩, ⟨ok', ov', ?_⟩, fun b hb => ?_⟩
    · rw [← hsz]
      exact he'
    · have e : b = it := by simpa using hb
      rw [e, upd_ne (Nat.ne_of_lt (Nat.lt_of_lt_of_le hlt hT0))]
      exact (hf it (by simp)).1
  done := by
    intro X hP hw hK hc i pins s σ H E I hf st hg
    subst hP hw hK
    obtain ⟨hd, hi⟩ := hg
    obtain ⟨es', ep', xs, h1, h2, h3, h4, h5, h6, h7⟩ := hd.ex
    obtain ⟨rfl, rfl⟩ := dict_ep hod h3
    obtain ⟨hsz, ent⟩ := nd_entry h4 h7
    obtain ⟨ok, ov, he⟩ := st
    have okd : ObjOk X.prog X.w H s.heap d (.ext fun h => h.get? d = some o) := I.hok d _ h1
    have hdo : s.heap.get? d = some o := okd.1
    obtain ⟨f0, f1, f2, f3, f4, f5⟩ := hf it (by simp)
    rw [← hsz] at he
    exact wpAny_pyNext_items_end_raw (I.ok.hd hc) he ⟨o, hdo, h2, h3⟩ (by omega) fun h' eb => ⟨rfl, I.turned (t' := s.toks) (fun b ob hb e => eb b ob hb e) f0 f1 f3 f4 f5⟩
  self := fun A i s Q E st h => let ⟨_, _, e⟩ := st; PySem.W.kcp_self e h
def iNd (P : Program) (w : World) (K : PySem.W.Frag) (td : TE) : TI := fun σ H R => td σ H fun x H1 => ∃ (d : Addr) (m : Tally), x = .ref d ∧ Nd P w K H1 d m ∧ ∀ o, NdO P w K H1 d o m → R (Itn P w K d o m) H1
theorem pi_nd {X : Cx} {e : Expr} {td : TE} {apos cpos : Pos} {elts : List Expr} {kk : Nat} {tpos : Pos} (he : PE X e td) (hP : X.prog = P := by rfl) (hw : X.w = w := by rfl) (hK : X.K = K := by rfl)
    (hbase : attributeBase e "items" X.env (eval e X.env) = eval e X.env := by rfl) (hline : (apos.endLine == cpos.line) = true := by rfl) :
    PI X (.Tuple elts kk tpos) (.Call (.Attribute e "items" apos) [] [] cpos) (iNd P w K td) := by
  subst hP hw hK
  refine ⟨fun pins s σ H R I h => ?_⟩
  refine wpAny_Call_method (T := "dict") (id := "dict.items") hbase rfl hline F.plainAttrs_dict F.slot_dict_items F.type_dict_items (thn (he.run pins s σ H _ I h) fun u s1 ⟨x, H1, I1, rx, d, m, ex, hd, q⟩ => ?_)
  subst ex
  obtain rfl : u = Value.ref d := rx
  obtain ⟨o, hdo⟩ := hd.o
  obtain ⟨es, ep, xs, h1, h2, h3, h4, h5, h6, h7⟩ := hdo.ex
  obtain ⟨hsz, _⟩ := nd_entry h4 h7
  have okd : ObjOk X.prog X.w H1 s1.heap d (.ext fun h => h.get? d = some o) := I1.hok d _ h1
  have hgo : s1.heap.get? d = some o := okd.1
  have raw : s1.heap.DictRaw d es ep := ⟨o, hgo, h2, h3⟩
  refine ⟨raw.typeIs, (fun b e => by cases e; exact ⟨o, hgo, h2.2.1⟩), ?_⟩
  have I2 : Inv X pins σ H1 { s1 with heap := s1.heap.push { cls := .type "dict_items", data := .fields #[.ref d] } } := I1.kept (t' := s1.toks) fun b ob q => Heap.get?_push_of_some _ q
  have fin : wpAny (model X.prog X.w) X.A (pyIter (.ref s1.heap.objs.size)) (PIE X pins σ (.Tuple elts kk tpos) R) X.xe { s1 with heap := s1.heap.push { cls := .type "dict_items", data := .fields #[.ref d] } } := by
    refine wpAny_pyIter_items_raw (d := d) ⟨_, Heap.get?_push_size _ rfl, rfl, rfl⟩ (raw.at fun o e => Heap.get?_push_of_some _ e) (pi_one (tk := s1.toks) I2 _ (turn_nd _ h3) ⟨.none, .none, ?_⟩ (q o hdo))
    rw [hsz]
    exact Heap.get?_push_size _ rfl
  show wpAny _ _ (callWith cpos (.builtin "dict.items") [.ref d] [] []) _ X.xe s1
  exact method_meetsIn F.slot_dict_items F.entry_dict_items rfl (PySem.evalArgs_none ⟨rfl, raw.typeIs, F.args_dict_items_1 _, _, meets_dict_items_raw (prog := X.prog) (w := X.w) d h6, ⟨es, ep, raw⟩, fin⟩)
theorem walk_nd : Walk (Itn P w K d o m) m.length (fun H => NdO P w K H d o m) (YNd K m) := ⟨fun i _ hi q => ⟨q, hi⟩, fun _ q => ⟨q, Nat.le_refl _⟩, fun i H v H' _ q y => y⟩
end
section
variable {prog : Program} {w : World} {A : Around} {E : Value → Shared → Prop} {s : Shared}
theorem len_body_raw {d : Addr} {es : Array DictEntry} {ep : Nat} {Q : Value → Shared → Prop} (hd : (d == sysModules) = false) (hm : s.heap.DictRaw d es ep) (hfit : (es.size : Int) < 2 ^ 63)
    (h : Q (.int es.size (s.toks + 1)) { s with toks := s.toks + 1 + 1 }) : wpAny (model prog w) A (Builtin.«len» ⟨[.ref d], []⟩) (fun fin s' => ∃ r, fin = .done (.ret r) ∧ Q r s') E s := by
  unfold Builtin.«len»
  refine wpAny_bind (m := oneArg "len" _) (wpAny_pure ?_)
  refine wpAny_bind (m := callSpecial? (.ref d) (Str.ofString "__len__")) (wpAny_callSpecial?_slot (name := Str.ofString "__len__") hm.typeIs F.slot_dict_len
    (call_meetsIn F.slot_dict_len hm.typeIs F.entry_dict_len (F.args_dict_len_1 _) (meets_dict_len_raw d hd) ⟨es, ep, hm, ?_⟩))
  show wpAny _ _ _ _ _ { s with toks := s.toks + 1 }
  refine wpAny_bind (wpAny_holding (wpAny_pure ?_))
  refine wpAny_bind (wpAny_letGo ?_)
  show wpAny _ _ (if ((es.size : Nat) : Int) < 0 then _ else _) _ _ _
  rw [if_neg (by omega)]
  show wpAny _ _ (if ((es.size : Nat) : Int) ≥ 2 ^ 63 then _ else _) _ _ _
  rw [if_neg (by omega)]
  exact wpAny_bind (wpAny_mkInt (wpAny_pure ⟨_, rfl, h⟩))
theorem len_raw {d : Addr} {es : Array DictEntry} {ep : Nat} {Q : Value → Shared → Prop} (hd : (d == sysModules) = false) (hm : s.heap.DictRaw d es ep) (hfit : (es.size : Int) < 2 ^ 63)
    (h : Q (.int es.size (s.toks + 1)) { s with toks := s.toks + 1 + 1 }) : wpAny (model prog w) A (call (.builtin "len") [.ref d]) Q E s :=
  Calls.call_function_entry kind_len plain_len entry_len (args_len1 _) (len_body_raw hd hm hfit h)
end
theorem c_lenNd {X : Cx} : CallR X (.builtin "len") (NdLenR X.prog X.w X.K) := by
  intro pins s σ H xs us Q I r h
  obtain ⟨d, m, rfl, hd, hl, q⟩ := h.ok
  obtain ⟨u, rfl, rx⟩ := vals1 r
  cases rx
  obtain ⟨o, hdo⟩ := hd.o
  obtain ⟨es, ep, ys, h1, h2, h3, h4, h5, h6, h7⟩ := hdo.ex
  obtain ⟨hsz, _⟩ := nd_entry h4 h7
  have okd : ObjOk X.prog X.w H s.heap d (.ext fun h => h.get? d = some o) := I.hok d _ h1
  refine len_raw h6 ⟨o, okd.1, h2, h3⟩ (by omega) ?_
  rw [hsz]
  exact ⟨.int m.length, H, I.tok _, ⟨_, rfl⟩, q⟩
theorem e_lenNd {X : Cx} {a : Expr} {ta : TE} {p pos : Pos} {P : Program} {w : World} {K : PySem.W.Frag} (hm : X.mg "len" = none) (ha : PE X a ta) (hP : X.prog = P := by rfl) (hw : X.w = w := by rfl) (hK : X.K = K := by rfl) (hg : Gl X "len" := by rfl) (he : starEach [a] X.env = (false, eval a X.env) :: starEach [] X.env := by rfl) :
    PE X (.Call (.Name "len" p) [a] [] pos) (tCB (NdLenR P w K) (tCons ta tNil)) := by
  subst hP hw hK
  exact pe_callB c_lenNd hg hm (by decide +kernel) (pa_cons ha pa_nil he) (by decide) (by decide) he rfl
end VF
set_option maxHeartbeats 4000000
/-! ## Y. Poll.by_tiers -/
namespace VF
open PySem L2
/-- the numbers of the rows, by the tiers that f tells -/
def tallyOn (f : Bal → List (List Str)) (m : Tally) (rs : List (Bal × Int)) : Tally := rs.foldl (fun m r => tput m (f r.1) ((tval m (f r.1)).getD 0 + r.2)) m
def tally (f : Bal → List (List Str)) (rs : List (Bal × Int)) : Tally := tallyOn f [] rs
theorem tally_snoc (f : Bal → List (List Str)) (rs : List (Bal × Int)) (r : Bal × Int) : tally f (rs ++ [r]) = tput (tally f rs) (f r.1) ((tval (tally f rs) (f r.1)).getD 0 + r.2) := by
  unfold tally tallyOn
  rw [List.foldl_append]
  rfl
theorem tput_len (m : Tally) (k : List (List Str)) (v : Int) : (tput m k v).length ≤ m.length + 1 := by
  unfold tput
  split
  · rw [List.length_map]
    omega
  · rw [List.length_append]
    exact Nat.le_refl _
theorem tally_len (f : Bal → List (List Str)) (rs : List (Bal × Int)) : (tally f rs).length ≤ rs.length := by
  have h : ∀ (rs : List (Bal × Int)) (m : Tally), (tallyOn f m rs).length ≤ m.length + rs.length := by
    intro rs
    induction rs with
    | nil => intro m; exact Nat.le_refl _
    | cons r rs ih =>
      intro m
      have q := ih (tput m (f r.1) ((tval m (f r.1)).getD 0 + r.2))
      have q2 := tput_len m (f r.1) ((tval m (f r.1)).getD 0 + r.2)
      show (tallyOn f (tput m (f r.1) ((tval m (f r.1)).getD 0 + r.2)) rs).length ≤ _
      rw [List.length_cons]
      omega
  have q := h rs []
  rw [List.length_nil, Nat.zero_add] at q
  exact q
def spBT (P : Program) (w : World) (K : PySem.W.Frag) (C : Addr) : Sp := fun vs H Q _ => ∃ (v : V) (os : List Str) (rs : List (Bal × Int)), vs = [v] ∧ Pl K C H v os rs ∧ OkO os ∧ (∀ x ∈ rs, OkR os x) ∧ rs.length ≤ 100 ∧
  ∀ d H', Same H H' → Nd P w K H' d (tally (fun b => tiersOf os (heightOf b)) rs) → Q (.ref d) H'
section
variable {P : Program} {w : World} {K : PySem.W.Frag} {mg : Str → Option Value} {base : Heap} {C : Addr}
theorem scBT : FnScope ["self", "found", "ballot", "many", "row"] ["self"] (defScope (cP 3)) := ⟨rfl, rfl, rfl, by decide +kernel, rfl, by decide +kernel, by decide +kernel⟩
theorem ok_bt {f : Addr} {fd : FuncData} (F : Fun K "by_tiers" "Poll.by_tiers" (cP 3) f fd) (B : Bt mg) (T : PolC K mg C) (Ut : C8.Cal P w K mg base 2 "tiers" (spTiers K) []) : FnOk P w K mg base CX0 3 f fd ["self"] (spBT P w K C) := by
  refine F.ok scBT (fun vs H Q E h => ?_) (fun cdv A outer s H vs Q E hr h => ?_)
  · obtain ⟨v, os, rs, rfl, _⟩ := h
    rfl
  · obtain ⟨v, os, rs, rfl, hl, oo, hR, hz, k⟩ := h
    obtain ⟨p, dx, o, r, rfl, hp, ho, hv⟩ := hl.ex
    refine ⟨_, pss_cons (ps_set (i := 1) scBT.nd rfl (Or.inl rfl) (pe_ndnew (P := P) (w := w) (K := K)))
      (pss_cons (ps_for PassesOwn.never rfl (i_tup (K := K) (pe_fld (pv 0) rfl)) (pg_tup (by rfl) (by exact pgs_cons (pg_name (i := 2) scBT.nd rfl (Or.inl rfl)) (pgs_cons (pg_name (i := 3) scBT.nd rfl (Or.inl rfl)) pgs_nil)))
        (pss_cons (ps_set (i := 4) scBT.nd rfl (Or.inl rfl) (C8.pe_c Ut hr (by decide) (by rfl) (pa_cons (pe_fld (pv 0) rfl) (pa_cons (pv 2) pa_nil))))
        (pss_one (ps_asg (pe_op op_add (pe_ndget2 (P := P) (w := w) (K := K) hr (pv 1) (pv 4) pe_int ⟨rfl, rfl, rfl, rfl⟩) (pv 3)) (pg_sub (pv 1) (pv 4) (set_nd (P := P) (w := w) (K := K) hr))))))
      (pss_one (ps_ret (pv 1)))), ?_⟩
    intro d H1 hd s1 nd1
    obtain ⟨av, xv, rfl, hav, hdv⟩ := dV_inv hv
    have lv := hdv.length
    rw [List.length_map] at lv
    refine ⟨_, rfl, p, C, dx, _, _, rfl, s1 _ _ hp, T.cls, T.nV, rfl, av, rfl, ⟨_, same_t s1 hav⟩, for_tup (xs := xv) (fun i σ H2 => (∃ x2 x3 x4, σ = [some (.ref p), some (.ref d), x2, x3, x4]) ∧ Same H H2 ∧ Nd P w K H2 d (tally (fun b => tiersOf os (heightOf b)) (rs.take i)))
      ⟨⟨_, _, _, rfl⟩, s1, by rw [List.take_zero]; exact nd1⟩ (fun i σ H2 _ h => same_t h.2.1 hav) ?_ ?_⟩
    · rintro i x σ H2 hx ⟨⟨x2, x3, x4, rfl⟩, s2, nd⟩
      obtain ⟨dd, hd1, hd2⟩ := hdv.get hx
      have hi : i < xv.length := (List.getElem?_eq_some_iff.mp hx).1
      have hi2 : i < rs.length := by omega
      have er : rs[i]? = some rs[i] := List.getElem?_eq_getElem hi2
      rw [List.getElem?_map, er] at hd1
      cases hd1
      obtain ⟨b, y, rfl, hb, hyb⟩ := row_inv (hd2.same s2)
      refine ⟨b, _, rfl, hb, rfl, _, _, rfl, _, _, rfl, rfl, ?_⟩
      refine ⟨_, rfl, p, C, dx, _, _, rfl, s2 _ _ hp, T.cls, T.nO, rfl, _, rfl, o, y, rs[i].1, os, rfl, ho.same s2, hyb, oo, (hR _ (List.getElem_mem hi2)).bal, fun v3 H3 s3 hv3 => ?_⟩
      refine ⟨_, rfl, d, _, rfl, nd.same s3, _, rfl, 0, rfl, nd.same s3, _, hv3, _, rfl, _, _, rfl, rfl, _, rfl, _, rfl, ⟨d, _, _, _, rfl, rfl, nd.same s3, hv3, ?_, fun H4 h4 nd4 => ⟨⟨_, _, _, rfl⟩, ?_, ?_⟩⟩⟩
      · have q := tally_len (fun b => tiersOf os (heightOf b)) (rs.take i)
        rw [List.length_take] at q
        omega
      · intro b u hbu
        exact h4 b u (ne_of_none hbu hd) (s3 _ _ (s2 _ _ hbu))
      · rw [List.take_succ_eq_append_getElem hi2, tally_snoc]
        exact nd4
    · rintro σ H2 ⟨⟨x2, x3, x4, rfl⟩, s2, nd⟩
      rw [lv, List.take_length] at nd
      exact ⟨_, rfl, k d H2 s2 nd⟩
end
end VF
set_option maxHeartbeats 4000000
/-! ## Z. Poll.__eq__, == and != of polls -/
namespace VF
open PySem L2
def eqTally (m1 m2 : Tally) : Bool := decide (m1.length = m2.length) && m1.all fun p => decide (tval m2 p.1 = some p.2)
def tl (os : List Str) (rs : List (Bal × Int)) : Tally := tally (fun b => tiersOf os (heightOf b)) rs
def eqPoll (os : List Str) (rs : List (Bal × Int)) (os2 : List Str) (rs2 : List (Bal × Int)) : Bool := decide (os = os2) && eqTally (tl os rs) (tl os2 rs2)
/-- isinstance(.., Poll) -/
structure PolI (K : PySem.W.Frag) (C : Addr) : Prop where
  ty : ∀ (H : Hp) (a dx : Addr) (fs : List (Str × V)), H a = some (.ins C dx fs) → TyX K H (.ref a) (.ref C)
  self : PySem.W.kitOne K (.ref C) (.ref C) = some true
  str : PySem.W.kitOne K (.type "str") (.ref C) = some false
  tup : PySem.W.kitOne K (.type "tuple") (.ref C) = some false
def spPEq (K : PySem.W.Frag) (C : Addr) : Sp := fun vs H Q _ => ∃ (v1 v2 : V) (os : List Str) (rs : List (Bal × Int)), vs = [v1, v2] ∧ Pl K C H v1 os rs ∧ OkO os ∧ (∀ x ∈ rs, OkR os x) ∧ rs.length ≤ 100 ∧
  ((∃ d, Dt K H v2 d ∧ (tyN d = "str" ∨ tyN d = "tuple") ∧ ∀ H', Same H H' → Q (.bl false) H') ∨
   (∃ os2 rs2, Pl K C H v2 os2 rs2 ∧ OkO os2 ∧ (∀ x ∈ rs2, OkR os2 x) ∧ rs2.length ≤ 100 ∧ ∀ H', Same H H' → Q (.bl (eqPoll os rs os2 rs2)) H'))
section
variable {P : Program} {w : World} {K : PySem.W.Frag} {mg : Str → Option Value} {base : Heap} {C : Addr}
theorem isi_pl {H : Hp} {v : V} {os : List Str} {rs : List (Bal × Int)} {Q : VK} (J : PolI K C) (h : Pl K C H v os rs) (q : Q (.bl true) H) : IsiR K [v, .ref C] H Q := by
  obtain ⟨p, dx, o, r, rfl, hp, _⟩ := h.ex
  exact ⟨_, .ref C, _, _, true, rfl, .own C, J.ty H p dx _ hp, J.self, q⟩
theorem isi_npl {H : Hp} {v : V} {d : PyData} {Q : VK} (J : PolI K C) (h : Dt K H v d) (t : tyN d = "str" ∨ tyN d = "tuple") (q : Q (.bl false) H) : IsiR K [v, .ref C] H Q := by
  refine ⟨v, .ref C, _, _, false, rfl, .own C, h.tyx, ?_, q⟩
  rcases t with t | t
  · rw [t]
    exact J.str
  · rw [t]
    exact J.tup
theorem PolC.gv (T : PolC K mg C) : ∃ u, mg "Poll" = some u ∧ RelV (.ref C) u := ⟨_, T.m, rfl⟩
theorem scEq : FnScope ["self", "other", "mine", "theirs", "row", "many"] ["self", "other"] (defScope (cP 1)) := ⟨rfl, rfl, rfl, by decide +kernel, rfl, by decide +kernel, by decide +kernel⟩
theorem ok_peq {f : Addr} {fd : FuncData} (F : Fun K "__eq__" "Poll.__eq__" (cP 1) f fd) (B : Bt mg) (T : PolC K mg C) (J : PolI K C) (U : C8.Met P w K mg base 3 C "by_tiers" (spBT P w K C) []) : FnOk P w K mg base CX0 4 f fd ["self", "other"] (spPEq K C) := by
  refine F.ok scEq (fun vs H Q E h => ?_) (fun cdv A outer s H vs Q E hr h => ?_)
  · obtain ⟨v1, v2, os, rs, rfl, _⟩ := h
    rfl
  · obtain ⟨v1, v2, os, rs, rfl, hl, oo, hR, hz, ar⟩ := h
    have hl0 := hl
    obtain ⟨p, dx, o, r, rfl, hp, ho, hv⟩ := hl.ex
    refine ⟨_, pss_cons (ps_if (PW.pt (pw_or (pt_not (pt_val (e_isi (K := K) B.isi (pv 1) (C8.pe_gc (by rfl) T.gv)))) (pw_or1 (pt_cmpR (o_ne (K := K) hr) (pe_fld (pv 0) rfl) (pe_fld (pv 1) rfl) (nomark _)))))
        (pss_one (ps_ret pe_bl)) pss_nil)
      (pss_cons (ps_asg (pe_tup (pa_cons (C8.pe_mt0 U hr (by decide) (pv 0)) (pa_cons (C8.pe_mt0 U hr (by decide) (pv 1)) pa_nil))) (pg_tup (by rfl) (by exact pgs_cons (pg_name (i := 2) scEq.nd rfl (Or.inl rfl)) (pgs_cons (pg_name (i := 3) scEq.nd rfl (Or.inr rfl)) pgs_nil))))
      (pss_one (ps_ret (pe_and (pe_cmpR op_eq (e_lenNd (P := P) (w := w) (K := K) B.len (pv 2)) (e_lenNd (P := P) (w := w) (K := K) B.len (pv 3)) (nomark _))
        (pe_one (e_all (K := K) B.all rfl (pe_lc (own := [("row", 4), ("many", 5)]) rfl scEq.nd (pi_nd (P := P) (w := w) (K := K) (pv 2)) (blkOk_by (N := ["self", "other", "mine", "theirs", "row", "many"]) (sc := defScope (cP 1)) (by decide +kernel))
          (fun _ _ _ _ _ => g_tup (K := K) (n := 2) rfl (by exact pgs_cons (pg_name (i := 4) scEq.nd rfl (Or.inl rfl)) (pgs_cons (pg_name (i := 5) scEq.nd rfl (Or.inl rfl)) pgs_nil))) (fun _ _ _ _ _ => pts_nil)
          (fun _ _ _ _ _ => pe_cmpR (o_eq (K := K) hr) (pe_ndget1 (P := P) (w := w) (K := K) hr (pv 3) (pv 4) ⟨rfl, rfl, rfl, rfl⟩) (pv 5) (nomark _))))))))), ?_⟩
    rcases ar with ⟨d, hd, ht, k⟩ | ⟨os2, rs2, hl2, oo2, hR2, hz2, k⟩
    · exact ⟨_, rfl, isi_npl J hd ht ⟨_, rfl, iteT (iteT (k H (Same.refl H)))⟩⟩
    · have hl20 := hl2
      obtain ⟨p2, dx2, o2, r2, rfl, hp2, ho2, hv2⟩ := hl2.ex
      refine ⟨_, rfl, isi_pl J hl20 ⟨_, rfl, iteF ?_⟩⟩
      refine ⟨_, rfl, p, C, dx, _, o, rfl, hp, T.cls, T.nO, rfl, _, rfl, p2, C, dx2, _, o2, rfl, hp2, T.cls, T.nO, rfl, ?_⟩
      refine ne_d ho ho2 (oo.gd.fit (by decide)) (oo2.gd.fit (by decide)) (fun z => ?_) fun z => ?_
      · rw [real_dN, real_dN] at z
        obtain rfl := dN_inj z
        refine ⟨_, rfl, iteF ?_⟩
        refine ⟨_, rfl, p, dx, _, rfl, hp, rfl, ?_⟩
        refine ⟨.ref p, os, rs, rfl, hl0, oo, hR, hz, fun d H1 s1 nd => ?_⟩
        refine ⟨_, rfl, p2, dx2, _, rfl, s1 _ _ hp2, rfl, ?_⟩
        refine ⟨.ref p2, os, rs2, rfl, hl20.same s1, oo2, hR2, hz2, fun d2 H2 s2 nd2 => ?_⟩
        refine ⟨(by show 2 ≤ sizeLine; decide), fun t ht => ?_⟩
        have st : Same H2 (upd H2 t (.tup [.ref d, .ref d2])) := L2.Same.put ht
        have nd3 := (nd.same s2).same st
        have nd4 := nd2.same st
        have s5 := (s1.trans s2).trans st
        refine ⟨t, _, rfl, SqT.of upd_same, rfl, _, _, rfl, _, _, rfl, rfl, ?_⟩
        have q1 := tally_len (fun b => tiersOf os (heightOf b)) rs
        have q2 := tally_len (fun b => tiersOf os (heightOf b)) rs2
        refine ⟨_, rfl, ⟨d, _, rfl, nd3, by omega, _, rfl, ⟨d2, _, rfl, nd4, by omega, ?_⟩⟩⟩
        refine ⟨rfl, _, rfl, ?_⟩
        have ev : decide (V.int ((tally (fun b => tiersOf os (heightOf b)) rs).length : Int) = V.int ((tally (fun b => tiersOf os (heightOf b)) rs2).length : Int)) = decide ((tl os rs).length = (tl os rs2).length) := by
          rw [decide_eq_decide]
          show V.int ((tl os rs).length : Int) = V.int ((tl os rs2).length : Int) ↔ _
          rw [V.int.injEq]
          omega
        rw [ev]
        by_cases el : (tl os rs).length = (tl os rs2).length
        · rw [decide_eq_true el]
          refine iteT ⟨_, rfl, d, _, rfl, nd3, fun ob hob => fun D hD => lc_b (tl os rs) (fun p => decide (tval (tl os rs2) p.1 = some p.2)) (walk_nd (P := P) (w := w) (K := K) (d := d) (o := ob)) hD (bad_len (by show (tally _ _).length ≤ _; omega)) (fun H5 s6 => hob.same s6) ?_ fun H5 s6 hy => all_b hy ?_⟩
          · rintro i pr x H5 H6 hx s6 ⟨T2, kk, n, a, em, rfl, hT2, rfl, dk⟩
            rw [hx] at em
            cases em
            have s7 : Same H5 (upd H5 T2 (.tup [.ref a, .int n])) := L2.Same.put hT2
            refine ⟨s7, fun A hA => ⟨T2, _, rfl, SqT.of upd_same, rfl, _, _, rfl, _, _, rfl, rfl, rfl, _, rfl, d2, _, rfl, (nd4.same s6).same s7, _, rfl, (nd4.same s6).same s7, kk, dk.same s7, _, rfl, ?_⟩⟩
            have fin : ∀ b : Bool, b = decide (tval (tl os rs2) kk = some n) → A (.bl b) (upd H5 T2 (.tup [.ref a, .int n])) := fun b e => by
              rw [e]
              exact hA _ (Same.refl _)
            cases ev2 : tval (tl os rs2) kk with
            | none =>
              have ev3 : tval (tally (fun b => tiersOf os (heightOf b)) rs2) kk = none := ev2
              rw [ev3]
              exact eq_d (.non) (.int n) (by decide) (by rfl) (fun z => by cases z) fun z => fin false (by rw [ev2]; rfl)
            | some v =>
              have ev3 : tval (tally (fun b => tiersOf os (heightOf b)) rs2) kk = some v := ev2
              rw [ev3]
              refine eq_d (.int v) (.int n) (by rfl) (by rfl) (fun z => ?_) fun z => ?_
              · cases z
                exact fin true (by rw [ev2]; exact (decide_eq_true rfl).symm)
              · exact fin false (by rw [ev2]; exact (decide_eq_false fun e => z (by cases e; rfl)).symm)
          · have q := k H5 (s5.trans s6)
            rw [eqPoll, decide_eq_true rfl, Bool.true_and, eqTally, decide_eq_true el, Bool.true_and] at q
            have e8 : ((tl os rs).map fun p => decide (tval (tl os rs2) p.1 = some p.2)).all id = (tl os rs).all fun p => decide (tval (tl os rs2) p.1 = some p.2) := by
              rw [List.all_map]
              rfl
            rw [e8]
            exact q
        · rw [decide_eq_false el]
          have q := k _ s5
          have eq0 : eqPoll os rs os rs2 = false := by
            rw [eqPoll, decide_eq_true rfl, eqTally, decide_eq_false el]
            rfl
          rw [eq0] at q
          exact iteF q
      · refine ⟨_, rfl, iteT ?_⟩
        have q := k H (Same.refl H)
        have ne : os ≠ os2 := fun e => z (by rw [e])
        rw [eqPoll, decide_eq_false ne] at q
        exact q
end
end VF
set_option maxHeartbeats 4000000
/-! ## BA. == and != of polls as operators -/
namespace VF
open PySem L2 PySem.Spec PyProof.Rows
/-- the class's own ==, its default != -/
structure EqC (P : Program) (w : World) (K : PySem.W.Frag) (mg : Str → Option Value) (base : Heap) (C : Addr) : Prop where
  ex : ∃ (f : Addr) (fd : FuncData), PySem.W.findIn K (.ref C) "__eq__" = some (some (.ref f)) ∧ PySem.W.isFn K (.ref f) = true ∧ FnOk P w K mg base CX0 4 f fd ["self", "other"] (spPEq K C) ∧ Binds K fd ["self", "other"] []
  ne : PySem.W.findIn K (.ref C) "__ne__" = some (some (.builtin "object.__ne__"))
  ob : PySem.W.subIn K (.ref C) (.type "object") = some true
  nfS : PySem.W.notFirst K C (.type "str") = true
  nfT : PySem.W.notFirst K C (.type "tuple") = true
structure PEqR (K : PySem.W.Frag) (C : Addr) (x y : V) (H : Hp) (Q : VK) : Prop where
  ok : spPEq K C [x, y] H (fun v H' => ∃ b, v = .bl b ∧ Q (.bl b) H') fun _ _ _ => False
structure PNeR (K : PySem.W.Frag) (C : Addr) (x y : V) (H : Hp) (Q : VK) : Prop where
  ok : spPEq K C [x, y] H (fun v H' => ∃ b, v = .bl b ∧ Q (.bl (!b)) H') fun _ _ _ => False
theorem one_slot : Slot "object" "__ne__" "object.__ne__" := .of (T := "object") (name := "__ne__") (owner := "object") (n := "__ne__") (by rw [typeLookup_type, builtinLookup_eq_fast]; kernel_rfl) (by decide +kernel) (by decide +kernel) (by decide +kernel)
    (.inl (by decide +kernel)) (by rw [isSubtype_type]; kernel_rfl)
section
variable {X : Cx} {pins : List (Addr × Obj)} {σ : L2.St} {H : Hp} {s : Shared} {C : Addr}
/-- the parts of such a comparison -/
theorem peq_parts {y : V} {u : Value} {QQ : VK} {EE : XK} {x : V} (G : EqC X.prog X.w X.K X.mg X.base C) (J : PolI X.K C) (I : Inv X pins σ H s) (ry : RelV y u) (h : spPEq X.K C [x, y] H QQ EE) :
    ∃ (p dx : Addr) (fs : List (Str × V)) (tb : Value), x = .ref p ∧ H p = some (.ins C dx fs) ∧ PySem.W.Looks (model X.prog X.w) s.heap (typeOf u) tb ∧ PySem.W.notFirst X.K C tb = true := by
  obtain ⟨v1, v2, os, rs, e, hl, _, _, _, ar⟩ := h
  cases e
  obtain ⟨p, dx, o, r, rfl, hp, _⟩ := hl.ex
  rcases ar with ⟨d, hd, ht, _⟩ | ⟨os2, rs2, hl2, _⟩
  · obtain ⟨Pp, Z, pz, _⟩ := kit_of I ry hd.tyx
    refine ⟨p, dx, _, _, rfl, hp, Z.ty _ _ I.kIn pz, ?_⟩
    rcases ht with t | t
    · rw [t]
      exact G.nfS
    · rw [t]
      exact G.nfT
  · obtain ⟨p2, dx2, o2, r2, rfl, hp2, _⟩ := hl2.ex
    obtain ⟨Pp, Z, pz, _⟩ := kit_of I ry (J.ty H p2 dx2 _ hp2)
    exact ⟨p, dx, _, _, rfl, hp, Z.ty _ _ I.kIn pz, by simp [PySem.W.notFirst]⟩
/-- the own == runs -/
theorem peq_run {A : Around} {p : Addr} {y : V} {u : Value} {Q : VK} {f : Addr} {fd : FuncData} (F : FnOk X.prog X.w X.K X.mg X.base CX0 4 f fd ["self", "other"] (spPEq X.K C)) (hb : Binds X.K fd ["self", "other"] []) (hr : Room 4 A) (fr : A.frames = X.A.frames)
    (I : Inv X pins σ H s) (ry : RelV y u) (h : spPEq X.K C [.ref p, y] H (fun v H' => ∃ b, v = .bl b ∧ Q (.bl b) H') fun _ _ _ => False) :
    wpAny (model X.prog X.w) A (call (.ref f) [.ref p, u]) (fun r s' => ∃ b H', r = .bool b ∧ Inv X pins σ H' s' ∧ Q (.bl b) H') X.xe s := by
  have e0 : Env0 X.prog X.w X.K X.mg X.base A X.stack s H := by
    have e := I.env0
    exact ⟨by rw [fr]; exact e.frames, e.mod, e.bs, e.bsz, e.funs, e.frf, e.hok, e.bare⟩
  have r2 : Vals [V.ref p, y] [Value.ref p, u] := .cons rfl (.cons ry .nil)
  refine wpAny_call (codeAny_mono (F.run A X.stack s H ⟨[.ref p, u], []⟩ [.ref p, u] [.ref p, y] _ _ hr e0 (by
    have := hb s [.ref p, u] I.kIn rfl
    simpa using this) r2 h) fun r s' hq => ?_)
  cases r with
  | error e => exact False.elim hq
  | ok fl =>
    cases fl with
    | ret wv =>
      obtain ⟨z, H', I', rz, b, ez, q⟩ := I.after hq
      subst ez
      cases rz
      exact ⟨b, H', rfl, I', q⟩
    | next => exact False.elim hq
    | brk => exact False.elim hq
    | cont => exact False.elim hq
theorem o_peq {k : Nat} {K : PySem.W.Frag} (G : EqC X.prog X.w X.K X.mg X.base C) (J : PolI X.K C) (hr : Room k X.A) (hk : 4 ≤ k) (hK : X.K = K := by rfl) : OpR X (compareOp .Eq) (PEqR K C) := by
  subst hK
  intro pins s σ H x y v u Q I rx ry h
  obtain ⟨f, fd, hs, hf, F, hb⟩ := G.ex
  obtain ⟨p, dx, fs, tb, rfl, hp, lt, nf⟩ := peq_parts G J I ry h.ok
  cases rx
  obtain ⟨mA, Ji, _⟩ := ins_get I.hok hp
  obtain ⟨od, Ji, _⟩ := Ji.look
  obtain ⟨m, hF⟩ := I.fr
  show wpAny (model X.prog X.w) X.A (richCompare .Eq (.ref p) u) (EP X pins σ Q) X.xe s
  refine PySem.W.cmp_K (op := .Eq) (tb := tb) hr.units0 hF I.ok.mod.kin Ji lt nf hs hf ?_
  refine wpAny_mono (peq_run F hb (hr.mono hk) rfl I ry h.ok) (fun r s' q => ?_) fun _ _ z => z
  obtain ⟨b, H', rfl, I', q⟩ := q
  exact ⟨.bl b, H', I', rfl, q⟩
/-- a slot's built-in, found in the class -/
theorem ifBoundB_K {M : Model} {A : Around} {E : Value → Shared → Prop} {K : PySem.W.Frag} {x C : Addr} {ox : Obj} {od : Option Obj} {name : Str} {id : String} {args : List Value} {Q : Option Value → Shared → Prop} (XK : K.In s.heap) (I : PySem.W.InstAt s.heap x ox C od) (hs : PySem.W.findIn K (.ref C) name = some (some (.builtin id)))
    (hb : ∀ self, bindSpecial (.builtin id) self = pure (.builtin id, [self])) (h : wpAny M A (call (.builtin id) (.ref x :: args)) (fun v => Q (some v)) E s) : wpAny M A (callSpecialIfBound? (.ref x) name args) Q E s := by
  simp only [callSpecialIfBound?, bindSpecialIfBound?]
  refine wpAny_holding (wpAny_bind (wpAny_bind (wpAny_bind (I.type.here ((PySem.W.looks_findIn XK hs).here ?_)))))
  refine wpAny_bind (wpAny_askSetting (wpAny_ite ?_))
  have fin : wpAny M A (call (.builtin id) ([.ref x] ++ args) >>= fun v => pure (some v)) Q E s := wpAny_bind (wpAny_mono h (fun v s' h' => wpAny_pure h') fun _ _ h' => h')
  split
  · exact wpAny_bind ((PySem.W.Looks.of_pure (hb _)).here (wpAny_pure (by exact fin)))
  · exact wpAny_tryCatch (wpAny_bind ((PySem.W.Looks.of_pure (hb _)).here (wpAny_pure (by exact fin))))
theorem ne_entry {A : Around} {E : Value → Shared → Prop} {K : PySem.W.Frag} {prog : Program} {w : World} {x C f : Addr} {ox : Obj} {od : Option Obj} {u : Value} {Q : Fin → Shared → Prop} (XK : K.In s.heap) (I : PySem.W.InstAt s.heap x ox C od) (hs : PySem.W.findIn K (.ref C) "__eq__" = some (some (.ref f)))
    (hf : PySem.W.isFn K (.ref f) = true) (hu : A.units < cLine) (hcall : wpAny (model prog w) A (call (.ref f) [.ref x, u]) (fun v s' => ∃ b, v = .bool b ∧ Q (.done (.ret (.bool (!b)))) s') E s) :
    wpAny (model prog w) A (Builtin.«object.__ne__» ⟨[.ref x, u], []⟩) Q E s := by
  unfold Builtin.«object.__ne__»
  obtain ⟨h, g, d, t, os⟩ := s
  repeat (first
    | with_reducible refine wpAny_cRoomFor hu ?_
    | (refine wpAny_bind (m := callSpecialIfBound? (.ref x) (Str.ofString "__eq__") [u])
        (PySem.W.ifBound_K XK I hs hf (wpAny_mono hcall (fun r s' hr => by
          obtain ⟨b, rfl, hq⟩ := hr
          repeat (first | exact hq | exact wpAny_pure hq | exact wpAny_truthy_bool hq | (refine wpAny_bind (m := truthy (.bool _)) (wpAny_truthy_bool ?_)) | wp_step)) fun _ _ e => e)))
    | wp_step)
theorem o_pne {k : Nat} {K : PySem.W.Frag} (G : EqC X.prog X.w X.K X.mg X.base C) (J : PolI X.K C) (hr : Room k X.A) (hk : 5 ≤ k) (hK : X.K = K := by rfl) : OpR X (compareOp .NotEq) (PNeR K C) := by
  subst hK
  intro pins s σ H x y v u Q I rx ry h
  obtain ⟨f, fd, hs, hf, Fe, hb⟩ := G.ex
  obtain ⟨p, dx, fs, tb, rfl, hp, lt, nf⟩ := peq_parts G J I ry h.ok
  cases rx
  obtain ⟨mA, Ji, _⟩ := ins_get I.hok hp
  obtain ⟨od, Ji, _⟩ := Ji.look
  obtain ⟨m, hF⟩ := I.fr
  have XK := I.kIn
  have hu := hr.units0
  have hu2 : X.A.in1.units < cLine := by
    have q := hr.units
    show X.A.units + 1 < cLine
    omega
  have sub : PySem.W.Looks (model X.prog X.w) s.heap (isInstance (.ref p) (.type "object")) true := Ji.type.andThen (PySem.W.looks_subIn XK G.ob)
  have ok2 : spPEq X.K C [.ref p, y] H (fun v H' => ∃ b, v = .bl b ∧ ∃ b', V.bl b = .bl b' ∧ Q (.bl (!b')) H') fun _ _ _ => False := by
    obtain ⟨v1, v2, os, rs, e, hl, oo, hR, hz, ar⟩ := h.ok
    refine ⟨v1, v2, os, rs, e, hl, oo, hR, hz, ?_⟩
    rcases ar with ⟨d, hd, ht, k⟩ | ⟨os2, rs2, hl2, oo2, hR2, hz2, k⟩
    · exact .inl ⟨d, hd, ht, fun H' s' => let ⟨b, e, q⟩ := k H' s'; ⟨b, e, b, rfl, q⟩⟩
    · exact .inr ⟨os2, rs2, hl2, oo2, hR2, hz2, fun H' s' => let ⟨b, e, q⟩ := k H' s'; ⟨b, e, b, rfl, q⟩⟩
  have one : wpAny (model X.prog X.w) X.A (tryCompare (.ref p) (cmpInfo .NotEq).2.1 u) (fun r s' => ∃ v, r = some v ∧ EP X pins σ Q v s') X.xe s := by
    rw [PySem.cmpInfo_NotEq]
    simp only [tryCompare]
    refine wpAny_bind (ifBoundB_K (id := "object.__ne__") XK Ji G.ne (fun self => one_slot.bind self) ?_)
    refine wpAny_call (codeAny_call_builtin one_slot.plain PySem.F.cmpEntry_ne (PySem.W.check_slot PySem.F.cmpKind_ne PySem.F.cmpSplit_ne sub (PySem.F.cmpArgs_ne _ _)
      (ne_entry (A := X.A.in1) XK Ji hs hf hu2 (wpAny_mono (peq_run (Q := fun v H' => ∃ b', v = .bl b' ∧ Q (.bl (!b')) H') Fe hb (hr.mono hk).in1 rfl I ry ok2) (fun r s' q => ?_) fun _ _ z => z))))
    obtain ⟨b, H', rfl, I', b', e, q⟩ := q
    cases e
    have fin : EP X pins σ Q (.bool (!b)) s' := ⟨.bl (!b), H', I', rfl, q⟩
    first | exact ⟨b, rfl, wpAny_pure ⟨_, rfl, fin⟩⟩ | exact ⟨b, rfl, wpAny_pure (wpAny_pure ⟨_, rfl, fin⟩)⟩ | exact ⟨b, rfl, ⟨_, rfl, fin⟩⟩
  show wpAny (model X.prog X.w) X.A (richCompare .NotEq (.ref p) u) (EP X pins σ Q) X.xe s
  unfold richCompare
  simp only [oneThing_ref]
  refine wpAny_holding (wpAny_bind (wpAny_cRoomFor hu ?_))
  refine wpAny_bind (Ji.type.here (wpAny_bind (lt.here ?_)))
  split
  · rename_i q
    have e : PySem.W.subIn X.K tb (.ref C) = some false := by
      rcases Bool.or_eq_true_iff.mp nf with e | e
      · rw [beq_iff_eq.mp e] at q
        simp at q
      · exact beq_iff_eq.mp e
    refine wpAny_bind ((PySem.W.looks_subIn XK e).here ?_)
    simp only [Bool.false_eq_true, if_false]
    refine wpAny_bind (wpAny_mono one (fun r s' z => ?_) fun _ _ e => e)
    obtain ⟨v, rfl, hq⟩ := z
    exact wpAny_pure hq
  · refine wpAny_bind (wpAny_pure ?_)
    simp only [Bool.false_eq_true, if_false]
    refine wpAny_bind (wpAny_mono one (fun r s' z => ?_) fun _ _ e => e)
    obtain ⟨v, rfl, hq⟩ := z
    exact wpAny_pure hq
end
end VF
set_option maxHeartbeats 4000000
/-! ## BB. defs that are called where the texts under way are known -/
namespace VF
open PySem L2 PySem.Spec PyProof.Rows
/-- as FnOk; g: the guards that stand around the call -/
structure FnG (P : Program) (w : World) (K : PySem.W.Frag) (mg : Str → Option Value) (base : Heap) (CX : CXT) (k : Nat) (f : Addr) (fd : FuncData) (ps : List Str) (sp : List Code → Sp) : Prop where
  len : ∀ g vs H Q E, sp g vs H Q E → vs.length = ps.length
  run : ∀ (g : List Code) (A : Around) (outer : List Env) (s : Shared) (H : Hp) (args : Args) (us : List Value) (vs : List V) (Q : VK) (E : XK), Room k A → A.guards = some g → Env0 P w K mg base A outer s H → BindsTo s fd args (ps.zip us) → Vals vs us → sp g vs H Q E →
    codeAny (model P w) A (.call (.ref f) args) (CR CX outer P w H s Q E) s
section
variable {P : Program} {w : World} {K : PySem.W.Frag} {mg : Str → Option Value} {base : Heap}
theorem fn_ofG {CX : CXT} {k : Nat} {f : Addr} {name qual : Str} {params : Arguments} {body : List Stmt} {scope : Scope} {dV kV doc pm cdv ct oc : Value} {an od : Option Addr}
    {osl : Array (Option Value)} {N ps : List Str} {sp : List Code → Sp} (lk : K.lookup f = some ⟨oc, od, .func (PySem.W.fnOf name qual params body scope dV kV doc pm an cdv ct), osl⟩) (hcd : PySem.W.codeIn K cdv qual = true) (S : FnScope N ps scope)
    (len : ∀ g vs H Q E, sp g vs H Q E → vs.length = ps.length)
    (hbody : ∀ (g : List Code) (A : Around) (outer : List Env) (s : Shared) (H : Hp) (vs : List V) (Q : VK) (E : XK), Room k (A.deeper (envOfC qual scope s.heap.objs.size f cdv)) → A.guards = some g → sp g vs H Q E →
      ∃ t, PSs (cxOf CX P w K mg base N qual scope f cdv A outer s H E) body t ∧ t { nx := fun _ H' => Q .non H', rt := Q } (start N vs) H) :
    FnG P w K mg base CX (k + 1) f (PySem.W.fnOf name qual params body scope dV kV doc pm an cdv ct) ps sp := by
  refine ⟨len, fun g A outer s H args us vs Q E hr hg e0 hb r hsp => ?_⟩
  have hl := len _ _ _ _ _ hsp
  have KX : K.In s.heap := e0.mod.kin.keeps fun b o e => (e0.bs b o e).1
  have lim : s.heap.NoLimit := e0.mod.nolimit.keeps fun b o e => (e0.bs b o e).1
  have hkind : ∀ y ∈ ps.zip us, scope.names.lookup y.1 = some .local ∨ (scope.names.lookup y.1 = some .cell ∧ ((cellsFrom (s.heap.objs.size + 1) scope.names []).lookup y.1).isSome = true) := fun ⟨n, v⟩ hy => by
    rcases S.par n (List.of_mem_zip hy).1 with q | q
    · exact .inl q
    · exact .inr ⟨q, PySem.W.cellsFrom_some _ _ _ (.inl q)⟩
  refine codeAny_call_function hr.depth (KX _ _ lk) rfl S.co S.gen rfl (PySem.W.codeRec_of KX hcd) (hb _ _ _ _ ?_)
  refine wpAny_newFunctionEnv_cells S.kind hkind fun env he s1 x => ?_
  subst he
  refine ⟨lim.keeps x.toInCall.keep, codeAny_func ?_⟩
  obtain ⟨t, ht, hq⟩ := hbody g A outer s H vs Q E (hr.deeper _) hg hsp
  have I : Inv (cxOf CX P w K mg base N qual scope f cdv A outer s H E) [] (start N vs) H s1 := inv_start S hr.hd e0 hl r x
  refine wpAny_mono (ht.run [] s1 (start N vs) H _ I hq) (fun fl s' hs => ?_) fun e s' hs => hs
  have fin : ∀ {σ' : L2.St} {H' : Hp} {v : V} {u : Value}, Inv (cxOf CX P w K mg base N qual scope f cdv A outer s H E) [] σ' H' s' → RelV v u → Q v H' → CE outer P w H s Q u s' :=
    fun {σ' H' v u} J rv q => ⟨v, H', J.os, J.bare, J.base, J.hok, rv, q⟩
  cases fl with
  | ret u =>
    obtain ⟨v, σ', H', J, rv, q⟩ := hs
    exact fin J rv q
  | next =>
    obtain ⟨σ', H', J, q⟩ := hs
    exact fin (v := V.non) (u := Value.none) J rfl q
  | brk =>
    obtain ⟨_, _, _, q⟩ := hs
    exact False.elim q
  | cont =>
    obtain ⟨_, _, _, q⟩ := hs
    exact False.elim q
/-- such a def by its body -/
theorem okG {x qual : Str} {st : Stmt} {f : Addr} {fd : FuncData} {N ps : List Str} {k : Nat} {sp : List Code → Sp} (F : Fun K x qual st f fd) (S : FnScope N ps (defScope st)) (len : ∀ g vs H Q E, sp g vs H Q E → vs.length = ps.length)
    (hbody : ∀ (cdv : Value) (g : List Code) (A : Around) (outer : List Env) (s : Shared) (H : Hp) (vs : List V) (Q : VK) (E : XK), Room k (A.deeper (envOfC qual (defScope st) s.heap.objs.size f cdv)) → A.guards = some g → sp g vs H Q E →
      ∃ t, PSs (cxOf CX0 P w K mg base N qual (defScope st) f cdv A outer s H E).nox (defBody st) t ∧ t { nx := fun _ H' => Q .non H', rt := Q } (start N vs) H) : FnG P w K mg base CX0 (k + 1) f fd ps sp := by
  obtain ⟨oc, od, kV, doc, pm, an, cdv, ct, osl, rfl, lk, hcd⟩ := F.ex
  refine fn_ofG lk hcd S len fun g A outer s H vs Q E hr hg hsp => ?_
  obtain ⟨t, h, q⟩ := hbody cdv g A outer s H vs Q E hr hg hsp
  exact ⟨t, h.nox, q⟩
/-- a def that needs no guards known -/
theorem FnG.of {CX : CXT} {k : Nat} {f : Addr} {fd : FuncData} {ps : List Str} {sp : Sp} (F : FnOk P w K mg base CX k f fd ps sp) : FnG P w K mg base CX k f fd ps (fun _ => sp) := ⟨fun _ => F.len, fun _ A outer s H args us vs Q E hr _ e0 => F.run A outer s H args us vs Q E hr e0⟩
/-- .. that may be called by its name -/
structure CalG (P : Program) (w : World) (K : PySem.W.Frag) (mg : Str → Option Value) (base : Heap) (k : Nat) (x : Str) (sp : List Code → Sp) : Prop where
  ex : ∃ (f : Addr) (fd : FuncData) (ps : List Str), FnG P w K mg base CX0 k f fd ps sp ∧ mg x = some (.ref f) ∧ PySem.W.keepIn K (.ref f) = true ∧ Binds K fd ps []
end
section
variable {X : Cx} {k j : Nat} {x : Str} {sp : List Code → Sp} {p pos : Pos} {e : Expr} {es : List Expr} {t : TA} {g : List Code}
theorem pe_cG (c : CalG X.prog X.w X.K X.mg X.base k x sp) (hr : Room j X.A) (hk : k ≤ j) (hga : X.A.guards = some g) (hg : Gl X x) (ha : PA X (e :: es) t)
    (hdb : (x == ("__debug__" : Str)) = false := by decide) (he : starEach (e :: es) X.env = (false, eval e X.env) :: starEach es X.env := by rfl) (hpl : (backTo pos (starEach es X.env)).any (·.1) = false := by rfl) :
    PE X (.Call (.Name x p) (e :: es) [] pos) (tCall (sp g) [] C8.E0 t) := by
  obtain ⟨f, fd, ps, F, hm, kp, b⟩ := c.ex
  refine ⟨fun pins s σ H Q I h => ?_⟩
  refine wpAny_Call_Name_kw (ld_glob I hg hm ?_ hdb)
  refine PySem.W.callWith_K (h₀ := X.base) I.ok.mod.kin kp (thn (ha.run pos pins s σ H _ I h) fun us s1 ⟨vs, H1, I1, r, q⟩ => ⟨I1.kIn, ?_⟩) he hpl
  have q : sp g (vs ++ []) H1 Q C8.E0 := q
  rw [List.append_nil] at q
  have hl : us.length = ps.length := by rw [← r.length]; exact F.len _ _ _ _ _ q
  refine wpAny_call (codeAny_mono (F.run g X.A X.stack s1 H1 ⟨us, []⟩ us vs Q C8.E0 (hr.mono hk) hga I1.env0 (by have := b s1 us I1.kIn (by simpa using hl); simpa using this) r q) fun r s' hq => ?_)
  cases r with
  | error e => exact False.elim hq
  | ok fl =>
    cases fl with
    | ret u => exact I1.after hq
    | next => exact False.elim hq
    | brk => exact False.elim hq
    | cont => exact False.elim hq
end
end VF
set_option maxHeartbeats 4000000
/-! ## BC. how long a text of data may be; repr of a tuple of data -/
namespace VF
open PySem L2 PySem.Spec PyProof.Rows
mutual
/-- data of None, small ints, texts, tuples, lists -/
def smI : PyData → Bool
  | .none => true
  | .bool _ => false
  | .int i => decide (i.natAbs < 1000000000)
  | .str x => PyData.strOk x
  | .list xs => smIs xs
  | .tuple xs => smIs xs
  | .dict _ => false
def smIs : List PyData → Bool
  | [] => true
  | d :: r => smI d && smIs r
end
mutual
def szD : PyData → Nat
  | .none => 4
  | .bool _ => 5
  | .int _ => 12
  | .str x => 10 * x.length + 2
  | .list xs => szs xs + 3
  | .tuple xs => szs xs + 3
  | .dict _ => 0
def szs : List PyData → Nat
  | [] => 0
  | d :: r => szD d + 2 + szs r
end
theorem smIs_all : ∀ ds : List PyData, smIs ds = ds.all smI
  | [] => rfl
  | d :: r => by rw [smIs, smIs_all r, List.all_cons]
mutual
theorem smI_real : ∀ d : PyData, smI (real d) = smI d
  | .none => rfl
  | .bool _ => rfl
  | .int _ => rfl
  | .str _ => rfl
  | .list xs => by rw [real, smI, smI, smIs_real xs]
  | .tuple xs => by rw [real, smI, smI, smIs_real xs]
  | .dict _ => rfl
theorem smIs_real : ∀ ds : List PyData, smIs (reals ds) = smIs ds
  | [] => rfl
  | d :: r => by rw [reals, smIs, smIs, smI_real d, smIs_real r]
end
mutual
theorem szD_real : ∀ d : PyData, szD (real d) = szD d
  | .none => rfl
  | .bool _ => rfl
  | .int _ => rfl
  | .str _ => rfl
  | .list xs => by rw [real, szD, szD, szs_real xs]
  | .tuple xs => by rw [real, szD, szD, szs_real xs]
  | .dict _ => rfl
theorem szs_real : ∀ ds : List PyData, szs (reals ds) = szs ds
  | [] => rfl
  | d :: r => by rw [reals, szs, szs, szD_real d, szs_real r]
end
theorem tupText_len (ts : List Str) : (tupleText ts).length ≤ piled ts + 3 := by
  unfold tupleText
  rw [strLen_append, strLen_append]
  have h1 : (Str.ofString "(").length = 1 := by decide +kernel
  have h2 : (Str.ofString (if ts.length == 1 then ",)" else ")")).length ≤ 2 := by
    split
    · show (Str.ofString ",)").length ≤ 2
      decide +kernel
    · show (Str.ofString ")").length ≤ 2
      decide +kernel
  have h3 : (Str.join ", " ts).length ≤ piled ts := by
    cases ts with
    | nil => exact Nat.le_of_eq (by decide +kernel)
    | cons t r =>
      have q := join_length_add (t :: r) (by simp)
      omega
  omega
theorem textFrom_le : ∀ (ts : List Str) (k : Nat) (acc : Str), (textFrom k acc ts).length ≤ acc.length + piled ts
  | [], k, acc => by
    unfold textFrom
    omega
  | t :: ts, k, acc => by
    unfold textFrom
    refine Nat.le_trans (textFrom_le ts (k + 1) _) ?_
    rw [strLen_append, strLen_append, piled_cons]
    have h2 : (Str.ofString (if k > 0 then ", " else "")).length ≤ 2 := by
      split
      · show (Str.ofString ", ").length ≤ 2
        decide +kernel
      · show (Str.ofString "").length ≤ 2
        decide +kernel
    omega
theorem lstText_len (ts : List Str) : (listText ts).length ≤ piled ts + 3 := by
  unfold listText
  rw [strLen_append]
  have h1 : (Str.ofString "[").length = 1 := by decide +kernel
  have h2 : (Str.ofString "]").length = 1 := by decide +kernel
  have q := textFrom_le ts 0 (Str.ofString "[")
  omega
mutual
theorem shown_len : ∀ d : PyData, smI d = true → d.shown.length ≤ szD d
  | .none, _ => Nat.le_of_eq (by decide +kernel)
  | .bool _, h => by simp [smI] at h
  | .int i, h => by
    have h' : i.natAbs < 10 ^ 9 := by simpa [smI] using h
    have q := int_text_length_le10 (by decide) h'
    simp only [PyData.shown]
    show (Str.ofString (toString i)).length ≤ 12
    rw [PySem.ofString_length]
    omega
  | .str x, h => by
    simp only [PyData.shown, szD]
    refine StrLaws.reprText_len x fun c hc => ?_
    have h2 : PyData.strOk x = true := by simpa [smI] using h
    unfold PyData.strOk at h2
    rw [← Array.all_toList, List.all_eq_true] at h2
    have q := of_decide_eq_true (h2 c hc)
    have q2 : (0x110000 : Nat) ≤ 16 ^ 8 := by decide
    omega
  | .list xs, h => by
    have q := shown_lens xs (by simpa [smI] using h)
    have q2 := lstText_len (PyData.shownAll xs)
    simp only [PyData.shown, szD]
    omega
  | .tuple xs, h => by
    have q := shown_lens xs (by simpa [smI] using h)
    have q2 := tupText_len (PyData.shownAll xs)
    simp only [PyData.shown, szD]
    omega
  | .dict _, h => by simp [smI] at h
theorem shown_lens : ∀ ds : List PyData, smIs ds = true → piled (PyData.shownAll ds) ≤ szs ds
  | [], _ => by simp only [PyData.shownAll, szs]; exact Nat.le_of_eq (by rfl)
  | d :: r, h => by
    have h' : smI d = true ∧ smIs r = true := by simpa [smIs] using h
    have q1 := shown_len d h'.1
    have q2 := shown_lens r h'.2
    simp only [PyData.shownAll, szs]
    rw [piled_cons]
    omega
end
mutual
theorem sm_showable : ∀ d : PyData, smI d = true → d.showable = true
  | .none, _ => by simp [PyData.showable]
  | .bool _, h => by simp [smI] at h
  | .int i, h => by
    have h' : i.natAbs < 1000000000 := by simpa [smI] using h
    simp only [PyData.showable]
    refine decide_eq_true ?_
    by_cases z : i.natAbs = 0
    · rw [z]
      decide
    · refine (Nat.log2_lt z).mpr (Nat.lt_of_lt_of_le h' ?_)
      exact Nat.le_trans (show 1000000000 ≤ 2 ^ 30 by decide) (Nat.pow_le_pow_right (by decide) (show 30 ≤ 1920 by decide))
  | .str x, _ => by simp [PyData.showable]
  | .list xs, h => by simpa [PyData.showable] using sm_showables xs (by simpa [smI] using h)
  | .tuple xs, h => by simpa [PyData.showable] using sm_showables xs (by simpa [smI] using h)
  | .dict _, h => by simp [smI] at h
theorem sm_showables : ∀ ds : List PyData, smIs ds = true → PyData.showableAll ds = true
  | [], _ => by simp [PyData.showableAll]
  | d :: r, h => by
    have h' : smI d = true ∧ smIs r = true := by simpa [smIs] using h
    simp [PyData.showableAll, sm_showable d h'.1, sm_showables r h'.2]
end
mutual
theorem sm_noDict : ∀ d : PyData, smI d = true → d.hasDict = false
  | .none, _ => by simp [PyData.hasDict]
  | .bool _, h => by simp [smI] at h
  | .int i, h => by simp [PyData.hasDict]
  | .str x, _ => by simp [PyData.hasDict]
  | .list xs, h => by simpa [PyData.hasDict] using sm_noDicts xs (by simpa [smI] using h)
  | .tuple xs, h => by simpa [PyData.hasDict] using sm_noDicts xs (by simpa [smI] using h)
  | .dict _, h => by simp [smI] at h
theorem sm_noDicts : ∀ ds : List PyData, smIs ds = true → PyData.hasDictAll ds = false
  | [], _ => by simp [PyData.hasDictAll]
  | d :: r, h => by
    have h' : smI d = true ∧ smIs r = true := by simpa [smIs] using h
    simp [PyData.hasDictAll, sm_noDict d h'.1, sm_noDicts r h'.2]
end
/-- what stands around a text that is being made: nothing, or a list of instances -/
inductive GuardOk (H : Hp) : List Code → Prop
  | none : GuardOk H []
  | list {L p C dx : Addr} {fs : List (Str × V)} {ys : List V} {rest : List Value} {id : String} (h : H L = some (.lst (.ref p :: ys))) (hp : H p = some (.ins C dx fs)) : GuardOk H [.builtin id ⟨.ref L :: rest, []⟩]
theorem GuardOk.same {H H' : Hp} {g : List Code} (s : Same H H') (h : GuardOk H g) : GuardOk H' g := by
  cases h with
  | none => exact .none
  | list h hp => exact .list (s _ _ h) (s _ _ hp)
section
variable {X : Cx} {pins : List (Addr × Obj)} {σ : L2.St} {H : Hp} {s : Shared}
theorem clear_of {g : List Code} (I : Inv X pins σ H s) (h : GuardOk H g) {b : Addr} {d : PyData} {as : List Addr} (r : Reads s.heap (.ref b) d as) : Clear g b := by
  cases h with
  | none => exact Clear.nil b
  | @list L p C dx fs ys rest id h hp =>
    refine Clear.cons (Clear.nil b) fun e => ?_
    subst e
    have okL : ObjOk X.prog X.w H s.heap L (.lst (.ref p :: ys)) := I.hok L _ h
    obtain ⟨hz, its, n, rv, hl⟩ := okL
    have okP : ObjOk X.prog X.w H s.heap p (.ins C dx fs) := I.hok p _ hp
    obtain ⟨_, _, _, hpo, _⟩ := okP
    cases rv with
    | @cons _ u _ us r1 rr =>
      cases r1
      cases r with
      | list h1 h2 h3 h4 =>
        rw [hl] at h1
        cases h1
        cases h3
        have h4' : ReadsAll s.heap (.ref p :: us) _ _ := h4
        cases h4' with
        | cons q1 q2 =>
          cases q1 with
          | list k1 k2 k3 k4 => rw [hpo] at k1; cases k1; cases k2
          | tuple k1 k2 k3 k4 => rw [hpo] at k1; cases k1; cases k2
          | dict k1 k2 k3 k4 k5 => rw [hpo] at k1; cases k1; cases k2
      | tuple h1 h2 h3 h4 => rw [hl] at h1; cases h1; exact absurd h2 (show ¬ (Value.type "list" = Value.type "tuple") by decide)
      | dict h1 h2 h3 h4 h5 => rw [hl] at h1; cases h1; exact absurd h2 (show ¬ (Value.type "list" = Value.type "dict") by decide)
/-- a tuple of data, as a text -/
theorem show_tup {A : Around} {E : Value → Shared → Prop} {g : List Code} {v : V} {u : Value} {ds : List PyData} {Q : Value → Shared → Prop} (I : Inv X pins σ H s) (h : Dt X.K H v (.tuple ds)) (ru : RelV v u) (hs : smI (.tuple ds) = true) (hz : szD (.tuple ds) ≤ sizeLine) (hdp : PyData.depth (.tuple ds) ≤ 9)
    (hg : A.guards = some g) (gk : GuardOk H g) (hu : A.units + 100 < cLine) (q : ∀ s' t, Inv X pins σ H s' → Q (.str (PyData.shown (real (.tuple ds))) t) s') :
    wpAny (model X.prog X.w) A (pyReprObj u) Q E s := by
  have r0 := h.dp
  obtain ⟨as, r⟩ := Dp.reads I _ _ _ r0 ru
  have hs' : smI (real (.tuple ds)) = true := by rw [smI_real]; exact hs
  have hz1 : (PyData.shown (real (.tuple ds))).length ≤ sizeLine := Nat.le_trans (shown_len _ hs') (by rw [szD_real]; exact hz)
  have hd1 : PyData.depth (real (.tuple ds)) ≤ 9 := by rw [depth_real]; exact hdp
  rw [real] at r hs' hz1 hd1 q
  cases r with
  | @tuple a o vs n xs as1 h1 h2 h3 h4 =>
    have hz' : (tupleText (PyData.shownAll (reals ds))).length ≤ sizeLine := by simpa only [PyData.shown] using hz1
    obtain ⟨bs, hb, hk⟩ := ReprAllK.of_readsAll (prog := X.prog) (w := X.w) h4 (by simpa [PyData.showable] using sm_showable _ hs') (fun z => by rw [sm_noDicts (reals ds) (by simpa [smI] using hs')] at z; cases z) (fun t ht => Nat.le_trans (tupleText_mem_le ht) hz')
    have hna : a ∉ bs := not_mem_of_deeper (.tuple h1 h2 h3 h4) (by simp only [PyData.depth]; omega) hb
    simp only [PyData.depth] at hd1
    simp only [PyData.shown] at q
    refine wpAny_pyReprObj_tupleK h1 h2 h3 hna hk hg (fun b hm => ?_) (by omega) (fun _ _ e => e) (fun h' u tk hk' => q _ _ (I.kept (t' := tk) hk')) hz'
    rcases List.mem_cons.mp hm with rfl | hm
    · exact clear_of I gk (.tuple h1 h2 h3 h4)
    · obtain ⟨d', as', r', _⟩ := hb b hm
      exact clear_of I gk r'
/-- {t!r}, t a tuple of data -/
structure ShowR (K : PySem.W.Frag) (g : List Code) (x : V) (H : Hp) (Q : VK) : Prop where
  ok : ∃ ds, Dt K H x (.tuple ds) ∧ smI (.tuple ds) = true ∧ szD (.tuple ds) ≤ sizeLine ∧ PyData.depth (.tuple ds) ≤ 9 ∧ GuardOk H g ∧ Q (.str (PyData.shown (real (.tuple ds)))) H
theorem pe_show {K : PySem.W.Frag} {k : Nat} {g : List Code} {e : Expr} {te : TE} {pos : Pos} (hr : Room k X.A) (hga : X.A.guards = some g) (he : PE X e te) (hK : X.K = K := by rfl) : PE X (.FormattedValue e 114 none pos) (fun σ H Q => te σ H fun x H1 => ShowR K g x H1 Q) := by
  subst hK
  refine ⟨fun pins s σ H Q I h => ?_⟩
  refine wpAny_FormattedValue_repr (thn (he.run pins s σ H _ I h) fun v s1 hv => ?_)
  obtain ⟨x, H1, I1, r1, q⟩ := hv
  obtain ⟨ds, hd, hs, hz, hdp, gk, q⟩ := q.ok
  have hz1 : (PyData.shown (real (.tuple ds))).length ≤ sizeLine := Nat.le_trans (shown_len _ (by rw [smI_real]; exact hs)) (by rw [szD_real]; exact hz)
  have hu := hr.un
  exact show_tup I1 hd r1 hs hz hdp hga gk (by omega) fun s' t I2 => wpAny_formatField_str ⟨.str (PyData.shown (real (.tuple ds))), H1, I2, ⟨t, rfl⟩, q⟩ ⟨.str (PyData.shown (real (.tuple ds))), H1, I2.tok _, ⟨_, rfl⟩, q⟩ hz1
/-- repr(t), t a tuple of data -/
structure ReprR (K : PySem.W.Frag) (xs : List V) (H : Hp) (Q : VK) : Prop where
  ok : ∃ x ds, xs = [x] ∧ Dt K H x (.tuple ds) ∧ smI (.tuple ds) = true ∧ szD (.tuple ds) ≤ sizeLine ∧ PyData.depth (.tuple ds) ≤ 9 ∧ Q (.str (PyData.shown (real (.tuple ds)))) H
theorem c_repr {k : Nat} (hr : Room k X.A) (hga : X.A.guards = some []) : CallR X (.builtin "repr") (ReprR X.K) := by
  intro pins s σ H xs us Q I r h
  obtain ⟨x, ds, rfl, hd, hs, hz, hdp, q⟩ := h.ok
  obtain ⟨u, rfl, rx⟩ := vals1 r
  obtain ⟨as, rr⟩ := Dp.reads I _ _ _ hd.dp rx
  have hs' : smI (real (.tuple ds)) = true := by rw [smI_real]; exact hs
  have hz1 : (PyData.shown (real (.tuple ds))).length ≤ sizeLine := Nat.le_trans (shown_len _ hs') (by rw [szD_real]; exact hz)
  have hd1 : PyData.depth (real (.tuple ds)) ≤ 9 := by rw [depth_real]; exact hdp
  have hu := hr.un
  obtain ⟨a, ys, rfl, _, _⟩ := hd.tup_inv
  cases rx
  exact repr_of_reads' rr (sm_showable _ hs') (fun z => by rw [sm_noDict _ hs'] at z; cases z) hga (by omega) (fun _ _ e => e) (fun h' u tk hk => ⟨.str (PyData.shown (real (.tuple ds))), H, I.kept (t' := tk) hk, ⟨u, rfl⟩, q⟩) hz1
end
section
variable {X : Cx} {K : PySem.W.Frag} {k : Nat} {a : Expr} {ta : TE} {p pos : Pos}
theorem e_repr (hm : X.mg "repr" = none) (hr : Room k X.A) (hga : X.A.guards = some []) (ha : PE X a ta) (hK : X.K = K := by rfl) (hg : Gl X "repr" := by rfl) (he : starEach [a] X.env = (false, eval a X.env) :: starEach [] X.env := by rfl) : PE X (.Call (.Name "repr" p) [a] [] pos) (tCB (ReprR K) (tCons ta tNil)) := by
  subst hK
  exact pe_callB (c_repr hr hga) hg hm (by decide +kernel) (pa_cons ha pa_nil he) (by decide) (by decide) he rfl
end
end VF
set_option maxHeartbeats 4000000
/-! ## BD. Poll.__repr__ -/
namespace VF
open PySem L2 PySem.Spec PyProof.Rows
/-- a poll as a text -/
def showP (os : List Str) (rs : List (Bal × Int)) : Str := (((Str.empty ++ Str.ofString "Poll(") ++ (real (dN os)).shown) ++ Str.ofString ", ") ++ (real (dV rs)).shown ++ Str.ofString ")"
/-! sizes -/
theorem sm_dN {xs : List Str} (h : ∀ x ∈ xs, PyData.strOk x = true) : smI (dN xs) = true := by
  rw [dN, smI, smIs_all, List.all_map, List.all_eq_true]
  exact h
theorem szs_app : ∀ a b : List PyData, szs (a ++ b) = szs a + szs b
  | [], b => by simp [szs]
  | d :: a, b => by
    rw [List.cons_append, szs, szs, szs_app a b]
    omega
theorem szs_strs : ∀ {xs : List Str}, (∀ x ∈ xs, x.length ≤ 8) → szs (xs.map PyData.str) ≤ 84 * xs.length
  | [], _ => Nat.le_refl _
  | x :: xs, h => by
    have q1 := h x (List.mem_cons_self ..)
    have q2 := szs_strs (xs := xs) fun y hy => h y (List.mem_cons_of_mem _ hy)
    rw [List.map_cons, szs, szD, List.length_cons]
    omega
theorem szD_dN {xs : List Str} (h : ∀ x ∈ xs, x.length ≤ 8) : szD (dN xs) ≤ 84 * xs.length + 3 := by
  rw [dN, szD]
  have q := szs_strs h
  omega
theorem szs_dT : ∀ {ts : List (List Str)}, (∀ x ∈ ts.flatten, x.length ≤ 8) → szs (ts.map dN) ≤ 84 * ts.flatten.length + 5 * ts.length
  | [], _ => Nat.le_refl _
  | t :: ts, h => by
    have q1 := szD_dN (xs := t) fun x hx => h x (by rw [List.flatten_cons]; exact List.mem_append_left _ hx)
    have q2 := szs_dT (ts := ts) fun x hx => h x (by rw [List.flatten_cons]; exact List.mem_append_right _ hx)
    rw [List.map_cons, szs, List.flatten_cons, List.length_append, List.length_cons]
    omega
theorem szs_dP : ∀ {ps : List (Str × Int)}, (∀ p ∈ ps, p.1.length ≤ 8) → szs (ps.map dP) ≤ 110 * ps.length
  | [], _ => Nat.le_refl _
  | p :: ps, h => by
    have q1 := h p (List.mem_cons_self ..)
    have q2 := szs_dP (ps := ps) fun y hy => h y (List.mem_cons_of_mem _ hy)
    rw [List.map_cons, szs, List.length_cons]
    have e : szD (dP p) ≤ 105 := by
      simp only [dP, szD, szs]
      omega
    omega
section
variable {os : List Str}
theorem OkO.len8 (o : OkO os) : ∀ x ∈ os, x.length ≤ 8 := fun x hx => name_len (o.name x hx)
theorem OkN.len8 {xs : List Str} (o : OkO os) (h : OkN os xs) : ∀ x ∈ xs, x.length ≤ 8 := fun x hx => o.len8 x (someOf_mem h.some x hx)
theorem OkB.sz {b : Bal} (o : OkO os) (h : OkB os b) : szD (dB b) ≤ 20000 := by
  have w1 : (Bal.word (.ord [])).length ≤ 5 := by decide +kernel
  have w2 : (Bal.word (.lets [])).length ≤ 5 := by decide +kernel
  have w3 : (Bal.word (.marks [])).length ≤ 5 := by decide +kernel
  cases h with
  | @ord ts h ne m =>
    have q := szs_dT (h.len8 o)
    have q2 := h.most
    have w1' : (Bal.word (.ord ts)).length ≤ 5 := w1
    simp only [dB, szD, szs, Bal.body, dT]
    omega
  | @lets ns h =>
    have q := szD_dN (h.len8 o)
    have q2 := h.most
    have w2' : (Bal.word (.lets ns)).length ≤ 5 := w2
    simp only [dB, szD, szs, Bal.body]
    omega
  | @marks ps h m =>
    have q := szs_dP (ps := ps) fun p hp => h.len8 o p.1 (List.mem_map_of_mem hp)
    have q2 := h.most
    rw [List.length_map] at q2
    have w3' : (Bal.word (.marks ps)).length ≤ 5 := w3
    simp only [dB, szD, szs, Bal.body, dM]
    omega
theorem sm_pairs {ps : List (Str × Int)} (h : ∀ p ∈ ps, PyData.strOk p.1 = true ∧ 0 ≤ p.2 ∧ p.2 ≤ 9) : smIs (ps.map dP) = true := by
  rw [smIs_all, List.all_map, List.all_eq_true]
  intro p hp
  obtain ⟨h1, h2, h3⟩ := h p hp
  show smI (dP p) = true
  have e : decide (p.2.natAbs < 1000000000) = true := decide_eq_true (by omega)
  simp only [dP, smI, smIs, h1, e, Bool.and_true]
theorem OkB.sm {b : Bal} (o : OkO os) (h : OkB os b) : smI (dB b) = true := by
  have w1 : PyData.strOk (Bal.word (.ord [])) = true := by decide +kernel
  have w2 : PyData.strOk (Bal.word (.lets [])) = true := by decide +kernel
  have w3 : PyData.strOk (Bal.word (.marks [])) = true := by decide +kernel
  cases h with
  | @ord ts h ne m =>
    have w1' : PyData.strOk (Bal.word (.ord ts)) = true := w1
    have q : smIs (ts.map dN) = true := by
      rw [smIs_all, List.all_map, List.all_eq_true]
      exact fun t ht => sm_dN fun x hx => h.sok o x (List.mem_flatten.mpr ⟨t, ht, hx⟩)
    simp only [dB, smI, smIs, Bal.body, dT, w1', q, Bool.and_true]
  | @lets ns h =>
    have w2' : PyData.strOk (Bal.word (.lets ns)) = true := w2
    simp only [dB, smI, smIs, Bal.body, w2', sm_dN (h.sok o), Bool.and_true]
  | @marks ps h m =>
    have w3' : PyData.strOk (Bal.word (.marks ps)) = true := w3
    simp only [dB, smI, smIs, Bal.body, dM, w3', sm_pairs (ps := ps) fun p hp => ⟨h.sok o p.1 (List.mem_map_of_mem hp), m p hp⟩, Bool.and_true]
theorem OkR.sm {r : Bal × Int} (o : OkO os) (h : OkR os r) : smI (dR r) = true := by
  have e : decide (r.2.natAbs < 1000000000) = true := decide_eq_true (by have := h.lo; have := h.hi; omega)
  simp only [dR, smI, smIs, h.bal.sm o, e, Bool.and_true]
theorem OkR.sz {r : Bal × Int} (o : OkO os) (h : OkR os r) : szD (dR r) ≤ 20100 := by
  have q := h.bal.sz o
  simp only [dR, szD, szs]
  omega
theorem sm_dV {rs : List (Bal × Int)} (o : OkO os) (h : ∀ r ∈ rs, OkR os r) : smI (dV rs) = true := by
  rw [dV, smI, smIs_all, List.all_map, List.all_eq_true]
  exact fun r hr => (h r hr).sm o
theorem sz_dV {rs : List (Bal × Int)} (o : OkO os) (h : ∀ r ∈ rs, OkR os r) : szD (dV rs) ≤ 20102 * rs.length + 3 := by
  have q : ∀ {rs : List (Bal × Int)}, (∀ r ∈ rs, OkR os r) → szs (rs.map dR) ≤ 20102 * rs.length := by
    intro rs
    induction rs with
    | nil => intro _; exact Nat.le_refl _
    | cons r rs ih =>
      intro h
      have q1 := (h r (List.mem_cons_self ..)).sz o
      have q2 := ih fun x hx => h x (List.mem_cons_of_mem _ hx)
      rw [List.map_cons, szs, List.length_cons]
      omega
  have q' := q h
  rw [dV, szD]
  omega
theorem showP_len {rs : List (Bal × Int)} (o : OkO os) (h : ∀ r ∈ rs, OkR os r) (hz : rs.length ≤ 100) : (showP os rs).length ≤ 2100000 := by
  unfold showP
  rw [real_dN, strLen_append, strLen_append, strLen_append, strLen_append, strLen_append]
  have e0 : Str.empty.length = 0 := by decide +kernel
  have e1 : (Str.ofString "Poll(").length = 5 := by decide +kernel
  have e2 : (Str.ofString ", ").length = 2 := by decide +kernel
  have e3 : (Str.ofString ")").length = 1 := by decide +kernel
  have q1 := shown_len _ (sm_dN o.sok)
  have q2 := szD_dN o.len8
  have q3 := o.most
  have q4 := shown_len (real (dV rs)) (by rw [smI_real]; exact sm_dV o h)
  have q5 := sz_dV o h
  rw [szD_real] at q4
  omega
end
def spPRepr (K : PySem.W.Frag) (C : Addr) : List Code → Sp := fun g vs H Q _ => ∃ (v : V) (os : List Str) (rs : List (Bal × Int)), vs = [v] ∧ Pl K C H v os rs ∧ OkO os ∧ (∀ x ∈ rs, OkR os x) ∧ rs.length ≤ 100 ∧ GuardOk H g ∧ Q (.str (showP os rs)) H
section
variable {P : Program} {w : World} {K : PySem.W.Frag} {mg : Str → Option Value} {base : Heap} {C : Addr}
theorem scRp : FnScope ["self"] ["self"] (defScope (cP 2)) := ⟨rfl, rfl, rfl, by decide +kernel, rfl, by decide +kernel, by decide +kernel⟩
theorem big_line {n : Nat} (h : n ≤ 2100000) : n ≤ sizeLine := by
  rw [sizeLine_eq]
  omega
theorem ok_prepr {f : Addr} {fd : FuncData} (F : Fun K "__repr__" "Poll.__repr__" (cP 2) f fd) (T : PolC K mg C) : FnG P w K mg base CX0 1 f fd ["self"] (spPRepr K C) := by
  refine okG F scRp (fun g vs H Q E h => ?_) (fun cdv g A outer s H vs Q E hr hga h => ?_)
  · obtain ⟨v, os, rs, rfl, _⟩ := h
    rfl
  · obtain ⟨v, os, rs, rfl, hl, oo, hR, hz, gk, k⟩ := h
    obtain ⟨p, dx, o, r, rfl, hp, ho, hv⟩ := hl.ex
    refine ⟨_, pss_one (ps_ret (pe_joined (PJ.cons pe_str (PJ.cons (pe_show (K := K) (g := g) hr hga (pe_fld (pv 0) rfl)) (PJ.cons pe_str (PJ.cons (pe_show (K := K) (g := g) hr hga (pe_fld (pv 0) rfl)) (PJ.cons pe_str PJ.nil))))))), ?_⟩
    have ln := showP_len oo hR hz
    have l0 := ln
    unfold showP at l0
    rw [strLen_append, strLen_append, strLen_append, strLen_append] at l0
    have g1 := oo.gd
    have g2 := gd_dV oo hR
    have z1 := szD_dN oo.len8
    have z2 := sz_dV oo hR
    have o6 := oo.most
    refine ⟨_, rfl, big_line (by omega), _, rfl, p, C, dx, _, o, rfl, hp, T.cls, T.nO, rfl, ⟨os.map PyData.str, ho, sm_dN oo.sok, big_line (by show szD (dN os) ≤ _; omega), Nat.le_trans g1.2 (by decide), gk, _, rfl, big_line ?_, ?_⟩⟩
    · show (Str.empty ++ Str.ofString "Poll(" ++ (real (dN os)).shown).length ≤ 2100000
      rw [strLen_append]
      omega
    refine ⟨_, rfl, big_line ?_, _, rfl, p, C, dx, _, r, rfl, hp, T.cls, T.nV, rfl, ⟨rs.map dR, hv, sm_dV oo hR, big_line (by show szD (dV rs) ≤ _; omega), Nat.le_trans g2.2 (by decide), gk, _, rfl, big_line ?_, ?_⟩⟩
    · show (Str.empty ++ Str.ofString "Poll(" ++ (real (dN os)).shown ++ Str.ofString ", ").length ≤ 2100000
      rw [strLen_append, strLen_append]
      omega
    · show (Str.empty ++ Str.ofString "Poll(" ++ (real (dN os)).shown ++ Str.ofString ", " ++ (real (dV rs)).shown).length ≤ 2100000
      rw [strLen_append, strLen_append, strLen_append]
      omega
    exact ⟨_, rfl, big_line ln, k⟩
end
end VF
set_option maxHeartbeats 4000000
/-! ## BE. repr(poll), repr([poll, ..]) -/
namespace VF
open PySem L2 PySem.Spec PyProof.Rows
/-- the class's own repr -/
structure RpC (P : Program) (w : World) (K : PySem.W.Frag) (mg : Str → Option Value) (base : Heap) (C : Addr) : Prop where
  ex : ∃ (f : Addr) (fd : FuncData), PySem.W.findIn K (.ref C) "__repr__" = some (some (.ref f)) ∧ PySem.W.isFn K (.ref f) = true ∧ FnG P w K mg base CX0 1 f fd ["self"] (spPRepr K C) ∧ L2.Binds K fd ["self"] []
/-- a poll that may be shown -/
structure ShP (K : PySem.W.Frag) (C : Addr) (H : Hp) (v : V) (t : Str) : Prop where
  ex : ∃ os rs, Pl K C H v os rs ∧ OkO os ∧ (∀ x ∈ rs, OkR os x) ∧ rs.length ≤ 100 ∧ t = showP os rs
section
variable {X : Cx} {pins : List (Addr × Obj)} {σ : L2.St} {H : Hp} {s : Shared} {C : Addr}
theorem prepr_run {A : Around} {E : Value → Shared → Prop} {p : Addr} {t : Str} {g : List Code} {f : Addr} {fd : FuncData} (F : FnG X.prog X.w X.K X.mg X.base CX0 1 f fd ["self"] (spPRepr X.K C)) (hb : L2.Binds X.K fd ["self"] []) (hr : Room 1 A) (fr : A.frames = X.A.frames) (hg : A.guards = some g)
    (I : Inv X pins σ H s) (gk : GuardOk H g) (h : ShP X.K C H (.ref p) t) :
    wpAny (model X.prog X.w) A (call (.ref f) [.ref p]) (fun r s' => ∃ tk, r = .str t tk ∧ Inv X pins σ H s') E s := by
  have e0 : Env0 X.prog X.w X.K X.mg X.base A X.stack s H := by
    have e := I.env0
    exact ⟨by rw [fr]; exact e.frames, e.mod, e.bs, e.bsz, e.funs, e.frf, e.hok, e.bare⟩
  obtain ⟨os, rs, hl, oo, hR, hz, rfl⟩ := h.ex
  have hsp : spPRepr X.K C g [.ref p] H (fun v H' => v = .str (showP os rs) ∧ H' = H) (fun _ _ _ => False) := ⟨.ref p, os, rs, rfl, hl, oo, hR, hz, gk, rfl, rfl⟩
  have r2 : Vals [V.ref p] [Value.ref p] := .cons rfl .nil
  refine wpAny_call (codeAny_mono (F.run g A X.stack s H ⟨[.ref p], []⟩ [.ref p] [.ref p] _ _ hr hg e0 (by
    have := hb s [.ref p] I.kIn rfl
    simpa using this) r2 hsp) fun r s' hq => ?_)
  cases r with
  | error e => exact False.elim hq
  | ok fl =>
    cases fl with
    | ret wv =>
      obtain ⟨z, H', I', rz, ez, eH⟩ := I.after hq
      subst ez eH
      obtain ⟨tk, rfl⟩ := rz
      exact ⟨tk, rfl, I'⟩
    | next => exact False.elim hq
    | brk => exact False.elim hq
    | cont => exact False.elim hq
/-- a poll as an item of a list that is shown -/
theorem under_poll {A : Around} {E : Value → Shared → Prop} {p : Addr} {t : Str} {g : List Code} {b : Nat} {Q : Str → Shared → Prop} (G : RpC X.prog X.w X.K X.mg X.base C) (hr : Room 1 A) (fr : A.frames = X.A.frames) (hg : A.guards = some g)
    (I : Inv X pins σ H s) (gk : GuardOk H g) (h : ShP X.K C H (.ref p) t) (hb0 : b ≤ sizeLine) (q : ∀ s', Inv X pins σ H s' → Q t s') : wpAny (model X.prog X.w) A (pyReprUnder b (.ref p)) Q E s := by
  obtain ⟨f, fd, hs, hf, F, hb⟩ := G.ex
  have h0 := h
  obtain ⟨os, rs, hl, _⟩ := h.ex
  obtain ⟨p', dx, o, r, e, hp, _⟩ := hl.ex
  cases e
  obtain ⟨mA, Ji, _⟩ := ins_get I.hok hp
  obtain ⟨od, Ji, _⟩ := Ji.look
  have XK := I.kIn
  have hu := hr.units0
  have run := wpAny_mono (prepr_run (E := E) F hb hr fr hg I gk h0) (fun r s' hq => show (∃ x u, r = .str x u ∧ Q x s') from by
    obtain ⟨tk, rfl, I'⟩ := hq
    exact ⟨_, _, rfl, q s' I'⟩) fun _ _ z => z
  refine wpAny_pyReprUnder_ref hb0 ?_
  unfold pyReprObjUnder pyReprObjBy
  refine wpAny_bind (wpAny_cRoomFor hu ?_)
  refine wpAny_bind (wpAny_bind (Ji.type.here ((PySem.W.looks_findIn XK hs).here ?_)))
  show wpAny _ _ (if (some (Value.ref f)).isNone = true then _ else _) _ _ _
  rw [if_neg (by simp)]
  simp only [callSpecialIfBoundBy?, bindSpecialIfBound?]
  refine wpAny_bind (wpAny_holding (wpAny_bind (wpAny_bind (wpAny_bind (Ji.type.here ((PySem.W.looks_findIn XK hs).here ?_))))))
  have after : ∀ v s', (∃ x u, v = Value.str x u ∧ Q x s') → wpAny (model X.prog X.w) A (do
      let b ← isInstance v (Value.type "str")
      if b = true then pure v
      else do
        let n ← typeNameOf v
        raiseErrorMade "TypeError" (toString "__repr__ returned non-string (type " ++ toString n ++ toString ")")) (fun v s' => ∃ x u, v = Value.str x u ∧ Q x s') E s' := fun v s' hv => by
    obtain ⟨x, u, rfl, hq⟩ := hv
    exact wpAny_bind (wpAny_isInstance (T := "str") (b := true) rfl isSubtype_str_str (wpAny_pure ⟨x, u, rfl, hq⟩))
  have fin : wpAny (model X.prog X.w) A (call (.ref f) ([.ref p] ++ []) >>= fun v => pure (some v))
      (fun a s' => wpAny (model X.prog X.w) A
        (match a with
        | some r => do
          let b ← isInstance r (Value.type "str")
          if b = true then pure r
            else do
              let n ← typeNameOf r
              raiseErrorMade "TypeError" (toString "__repr__ returned non-string (type " ++ toString n ++ toString ")")
        | none => unsupported "repr:special-get-raises")
        (fun v s' => ∃ x u, v = Value.str x u ∧ Q x s') E s') E s :=
    wpAny_bind (wpAny_mono run (fun v s' z => wpAny_pure (after v s' z)) fun _ _ z => z)
  refine wpAny_bind (wpAny_askSetting (wpAny_ite ?_))
  split
  · exact wpAny_bind ((PySem.W.bind_fn XK _ (beq_iff_eq.mp hf)).here (wpAny_pure (by exact fin)))
  · exact wpAny_tryCatch (wpAny_bind ((PySem.W.bind_fn XK _ (beq_iff_eq.mp hf)).here (wpAny_pure (by exact fin))))
theorem loop_room {A : Around} (hr : Room 2 A) (args : Args) : Room 1 (A.under (.builtin "list.__repr__.loop" args)) := by
  have hw : (Code.builtin "list.__repr__.loop" args).weight = 1 := by
    unfold Code.weight
    have h1 : (Code.builtin "list.__repr__.loop" args).frames = 0 := by first | rfl | simp [Code.frames, Code.isFrame]
    have h2 : (Code.builtin "list.__repr__.loop" args).isCreation = false := by first | rfl | decide +kernel
    have h3 : (Code.builtin "list.__repr__.loop" args).isGuard = true := isGuard_list_loop args
    have h4 : (Code.builtin "list.__repr__.loop" args).isCaller = false := by first | rfl | decide +kernel
    rw [h1, h2, h3, h4]
    rfl
  refine ⟨hr.hd, ?_, ?_⟩
  · have q := hr.dp
    show A.depth + (Code.builtin "list.__repr__.loop" args).weight + 3 * 1 + 5 < recursionLimit
    rw [hw]
    omega
  · have q := hr.un
    rw [units_under_list_loop]
    omega
theorem loop_frames (A : Around) (args : Args) : (A.under (.builtin "list.__repr__.loop" args)).frames = A.frames := by
  have h : (Code.builtin "list.__repr__.loop" args).envs = [] := by
    unfold Code.envs
    have h1 : (Code.builtin "list.__repr__.loop" args).isFrame = false := by first | rfl | decide +kernel
    rw [h1]
    rfl
  show pushEnvs (Code.builtin "list.__repr__.loop" args).envs A.frames = A.frames
  rw [h]
  rfl
/-- the shown list's parts: a list of the machine, told to none -/
theorem repr_polls_loop {A : Around} {R : Result → Shared → Prop} {L P : Addr} {ps : List Addr} {ts : List Str} (G : RpC X.prog X.w X.K X.mg X.base C) (hr : Room 2 A) (fr : A.frames = X.A.frames) (hg : A.guards = some [])
    (hL : H L = some (.lst (ps.map V.ref))) (hT : Paired (fun p t => ShP X.K C H (.ref p) t) ps ts) (hP : FpOk X pins H P) (hsz : (listText ts).length ≤ sizeLine) (fin : ∀ u s', Inv X pins σ H s' → R (.ok (.ret (.str (listText ts) u))) s') :
    ∀ (k i : Nat) (s : Shared) (acc : Array Value) (c : Nat) (done : List (Str × Tok)), ps.length - i = k → i ≤ ps.length → Inv X pins σ H s → s.heap.get? P = some { cls := .type "list", dict := none, data := .seq acc c, slots := #[] } →
    acc.toList = strValues done → done.map (·.1) = ts.take i →
    codeAny (model X.prog X.w) A (.builtin "list.__repr__.loop" ⟨[.ref L, rawInt i, .ref P, rawInt ((0 + piled (ts.take i) : Nat) : Int)], []⟩) R s := by
  have hlen : ps.length = ts.length := Paired.length hT
  have hL2 := textFrom_len ts 0 "["
  have hX : (listText ts).length = (textFrom 0 "[" ts).length + 1 := by
    show (textFrom 0 "[" ts ++ "]").length = _
    rw [strLen_append]
    rfl
  have hsz1 : ps.length ≤ sizeLine := by
    have h1 := hL2.1
    rw [if_neg (Nat.lt_irrefl 0)] at h1
    omega
  have hsz2 : ∀ t ∈ ts, t.length ≤ sizeLine := fun t ht => by
    have h2 := hL2.2.1 t ht
    omega
  have hp3 := piled_le_listText ts
  intro k
  induction k with
  | zero =>
    intro i s acc c done hk hi I hPs hacc hdone
    have hin : i = ps.length := by omega
    obtain ⟨hz, its, n, rv, hl⟩ := (show ObjOk X.prog X.w H s.heap L (.lst (ps.map V.ref)) from I.hok L _ hL)
    have lits : its.length = ps.length := by rw [← rv.length, List.length_map]
    refine codeAny_builtin F.entry_list_repr_loop ?_
    show wpAny _ _ (Builtin.«list.__repr__.loop» ⟨[.ref L, .int i 0, .ref P, .int ((0 + piled (ts.take i) : Nat) : Int) 0], []⟩) _ _ s
    rw [repr_loop_tree]
    refine wpAny_bind (wpAny_listItems hl rfl ?_)
    have hnone : its.toArray[(i : Int).toNat]? = none := by simp [hin, lits]
    simp only [hnone]
    unfold reprEnd
    refine wpAny_bind (wpAny_listItems hPs rfl ?_)
    rw [hacc, repr_fold]
    refine wpAny_bind (wpAny_pure ?_)
    have hall : done.map (·.1) = ts := by rw [hdone, hin, hlen, List.take_length]
    rw [hall]
    exact wpAny_bind (wpAny_mkStr (wpAny_pure (fin _ _ (I.tok _))) hsz)
  | succ k ih =>
    intro i s acc c done hk hi I hPs hacc hdone
    have hlt : i < ps.length := by omega
    have hlt2 : i < ts.length := by omega
    have ht : ts[i]? = some ts[i] := List.getElem?_eq_getElem hlt2
    obtain ⟨p, hpi, sh⟩ := paired_at hT ht
    obtain ⟨hz, its, n, rv, hl⟩ := (show ObjOk X.prog X.w H s.heap L (.lst (ps.map V.ref)) from I.hok L _ hL)
    have lits : its.length = ps.length := by rw [← rv.length, List.length_map]
    obtain ⟨u, hu, ru⟩ := rv.get (show (ps.map V.ref)[i]? = some (.ref p) from by rw [List.getElem?_map, hpi]; rfl)
    cases ru
    have hp1 := piled_take_succ ht
    have hp2 := piled_take_le ts (i + 1)
    refine codeAny_builtin F.entry_list_repr_loop ?_
    show wpAny _ _ (Builtin.«list.__repr__.loop» ⟨[.ref L, .int i 0, .ref P, .int ((0 + piled (ts.take i) : Nat) : Int) 0], []⟩) _ _ s
    rw [repr_loop_tree]
    refine wpAny_bind (wpAny_listItems hl rfl ?_)
    have hsome : its.toArray[(i : Int).toNat]? = some (.ref p) := by simpa using hu
    simp only [hsome]
    rw [Int.toNat_natCast]
    have I2 : Inv X ((P, { cls := .type "list", dict := none, data := .seq acc c, slots := #[] }) :: pins) σ H s := by
      refine I.pins_of fun q hq => ?_
      rcases List.mem_cons.mp hq with e | hq
      · rw [e]
        exact ⟨hPs, hP.1, hP.2.1, hP.2.2.1, fun v z => by cases z⟩
      · exact I.pin q (List.mem_append_right _ hq)
    have gk : GuardOk H [.builtin "list.__repr__.loop" ⟨[.ref L, .int i 0, .ref P, .int ((0 + piled (ts.take i) : Nat) : Int) 0], []⟩] := by
      have e0 : ∃ p0 r0, ps = p0 :: r0 := by
        cases ps with
        | nil => exact absurd hlt (Nat.not_lt_zero _)
        | cons a r => exact ⟨a, r, rfl⟩
      obtain ⟨p0, r0, e0⟩ := e0
      subst e0
      cases hT with
      | cons q1 q2 =>
        obtain ⟨os, rs, hl0, _⟩ := q1.ex
        obtain ⟨p', dx, o, r, e, hp0, _⟩ := hl0.ex
        cases e
        exact .list hL hp0
    refine wpAny_bind (wpAny_holding (under_poll (g := [.builtin "list.__repr__.loop" ⟨[.ref L, .int i 0, .ref P, .int ((0 + piled (ts.take i) : Nat) : Int) 0], []⟩]) G ?_ ?_ (guards_under_guard (isGuard_list_loop _) hg) I2 gk sh (by omega) fun s2 I3 => ?_))
    · exact loop_room hr _
    · exact (loop_frames A _).trans fr
    refine wpAny_bind (wpAny_mkStr ?_ (hsz2 _ (List.mem_of_getElem? ht)))
    refine wpAny_bind ?_
    show wpAny _ _ (updateSeq P _) _ _ _
    have hasz : acc.size ≤ sizeLine := by
      have e1 : acc.toList.length = acc.size := by simp
      have e2 : (strValues done).length = done.length := by simp [strValues]
      have e3 : done.length = (ts.take i).length := by rw [← hdone, List.length_map]
      have e4 : (ts.take i).length ≤ i := by rw [List.length_take]; omega
      rw [hacc] at e1
      omega
    have hP2 := (I3.pin (P, { cls := .type "list", dict := none, data := .seq acc c, slots := #[] }) (List.mem_append_right _ (List.mem_cons_self ..))).1
    refine wpAny_updateSeq hP2 rfl (wpAny_pure ⟨F.quiet_list_repr_loop _, ?_⟩) hasz
    have e1 : ((i : Int) + 1) = ((i + 1 : Nat) : Int) := by omega
    have e2 : 0 + piled (ts.take i) + ((ts[i]).length + 2) = 0 + piled (ts.take (i + 1)) := by omega
    rw [e1, e2]
    have I4 : Inv X pins σ H s2 := I3.pins_of fun q hq => I3.pin q (List.mem_append_right _ (List.mem_cons_of_mem _ hq))
    refine ih (i + 1) _ (acc.push (.str ts[i] s2.toks)) _ (done ++ [(ts[i], s2.toks)]) (by omega) hlt (I4.turned (t' := s2.toks + 1) (fun b o hb e => (Heap.get?_update_other _ _ (fun h : P = b => hb h.symm)).trans e) hP.1 hP.2.1 hP.2.2.2.1 hP.2.2.2.2.1 hP.2.2.2.2.2)
      (Heap.get?_update_self _ hP2 rfl) (by rw [Array.toList_push, hacc]; unfold strValues; rw [List.map_append]; rfl) (by rw [List.map_append, hdone, List.take_succ_eq_append_getElem hlt2]; rfl)
/-- repr of a list of polls -/
structure ReprLR (K : PySem.W.Frag) (C : Addr) (xs : List V) (H : Hp) (Q : VK) : Prop where
  ok : ∃ (L : Addr) (ps : List Addr) (ts : List Str), xs = [.ref L] ∧ H L = some (.lst (ps.map V.ref)) ∧ ps ≠ [] ∧ Paired (fun p t => ShP K C H (.ref p) t) ps ts ∧ (listText ts).length ≤ sizeLine ∧ Q (.str (listText ts)) H
theorem c_reprL {k : Nat} (G : RpC X.prog X.w X.K X.mg X.base C) (hr : Room k X.A) (hk : 4 ≤ k) (hga : X.A.guards = some []) : CallR X (.builtin "repr") (ReprLR X.K C) := by
  intro pins s σ H xs us Q I r h
  obtain ⟨L, ps, ts, rfl, hL, hne, hT, hsz, q⟩ := h.ok
  obtain ⟨u, rfl, rx⟩ := vals1 r
  cases rx
  obtain ⟨hz, its, n, rv, hl⟩ := (show ObjOk X.prog X.w H s.heap L (.lst (ps.map V.ref)) from I.hok L _ hL)
  have lits : its.length = ps.length := by rw [← rv.length, List.length_map]
  have hu := hr.un
  have lt : L < s.heap.objs.size := Heap.lt_size hl
  obtain ⟨x, l, e⟩ : ∃ x l, its = x :: l := by
    cases its with
    | nil =>
      cases ps with
      | nil => exact absurd rfl hne
      | cons a r => simp at lits
    | cons x l => exact ⟨x, l, rfl⟩
  subst e
  have hr1 : Room 3 X.A.in1 := (hr.mono hk).in1
  refine call_repr_slot (by omega) ⟨_, hl, rfl⟩ F.slot_list_repr.toG ?_
  refine wpAny_call (codeAny_call_builtin F.slot_list_repr.plain F.entry_list_repr (F.slot_list_repr.check _ _ _ _ _ _ _ _ ⟨_, hl, rfl⟩ (F.args_list_repr_1 _) ?_))
  refine wpAny_list_repr_head (A := X.A.in1.in1) (g := []) hga (fun v rest kw hm => nomatch hm) hl rfl ?_
  refine wpAny_bind (m := newList []) (wpAny_newObj_type ?_)
  refine wpAny_pure ⟨F.quiet_list_repr_loop _, ?_⟩
  have hn : H s.heap.objs.size = none := I.hok.fresh (Nat.le_refl _)
  exact repr_polls_loop (A := X.A.in1) (P := s.heap.objs.size) G (hr1.mono (by decide)) rfl hga hL hT (I.fpOk (Nat.le_refl _) hn) hsz (fun u s' I' => ⟨_, _, rfl, .str (listText ts), H, I', ⟨u, rfl⟩, q⟩) _ 0 _ #[] _ [] rfl (Nat.zero_le _)
    (I.kept (t' := s.toks) fun b o e => Heap.get?_push_of_some _ e) (Heap.get?_push_size _ rfl) rfl rfl
/-- repr of a poll -/
structure ReprPR (K : PySem.W.Frag) (C : Addr) (xs : List V) (H : Hp) (Q : VK) : Prop where
  ok : ∃ (v : V) (t : Str), xs = [v] ∧ ShP K C H v t ∧ Q (.str t) H
theorem c_reprP {k : Nat} (G : RpC X.prog X.w X.K X.mg X.base C) (hr : Room k X.A) (hk : 2 ≤ k) (hga : X.A.guards = some []) : CallR X (.builtin "repr") (ReprPR X.K C) := by
  intro pins s σ H xs us Q I r h
  obtain ⟨v, t, rfl, sh, q⟩ := h.ok
  obtain ⟨u, rfl, rx⟩ := vals1 r
  obtain ⟨f, fd, hs, hf, Fg, hb⟩ := G.ex
  have sh0 := sh
  obtain ⟨os, rs, hl, _⟩ := sh.ex
  obtain ⟨p, dx, o, rr, e, hp, _⟩ := hl.ex
  subst e
  cases rx
  obtain ⟨mA, Ji, _⟩ := ins_get I.hok hp
  obtain ⟨od, Ji, _⟩ := Ji.look
  obtain ⟨m, hF⟩ := I.fr
  have hu := hr.un
  refine PySem.W.repr_K (by show X.A.units + 1 < cLine; omega) hF I.ok.mod.kin Ji hs hf (wpAny_mono (prepr_run Fg hb ((hr.mono hk).in1) rfl hga I .none sh0) (fun r s' z => ?_) fun _ _ z => z)
  obtain ⟨tk, rfl, I'⟩ := z
  exact ⟨.str t, H, I', ⟨tk, rfl⟩, q⟩
end
section
variable {X : Cx} {K : PySem.W.Frag} {C : Addr} {k : Nat} {a : Expr} {ta : TE} {p pos : Pos}
theorem e_reprL (hm : X.mg "repr" = none) (G : RpC X.prog X.w X.K X.mg X.base C) (hr : Room k X.A) (hk : 4 ≤ k) (hga : X.A.guards = some []) (ha : PE X a ta) (hK : X.K = K := by rfl) (hg : Gl X "repr" := by rfl) (he : starEach [a] X.env = (false, eval a X.env) :: starEach [] X.env := by rfl) : PE X (.Call (.Name "repr" p) [a] [] pos) (tCB (ReprLR K C) (tCons ta tNil)) := by
  subst hK
  exact pe_callB (c_reprL G hr hk hga) hg hm (by decide +kernel) (pa_cons ha pa_nil he) (by decide) (by decide) he rfl
theorem e_reprP (hm : X.mg "repr" = none) (G : RpC X.prog X.w X.K X.mg X.base C) (hr : Room k X.A) (hk : 2 ≤ k) (hga : X.A.guards = some []) (ha : PE X a ta) (hK : X.K = K := by rfl) (hg : Gl X "repr" := by rfl) (he : starEach [a] X.env = (false, eval a X.env) :: starEach [] X.env := by rfl) : PE X (.Call (.Name "repr" p) [a] [] pos) (tCB (ReprPR K C) (tCons ta tNil)) := by
  subst hK
  exact pe_callB (c_reprP G hr hk hga) hg hm (by decide +kernel) (pa_cons ha pa_nil he) (by decide) (by decide) he rfl
end
end VF
set_option maxHeartbeats 4000000
/-! ## BF. try with two clauses: the first without a name, the second with one -/
namespace VF
open PySem PySem.Spec PyProof.Rows L2
/-- what the two clauses wish of an exception of the body; slot i is the second one's name -/
def wTwo (K : PySem.W.Frag) (c1 c2 : Value) (i : Nat) (t1 t2 : Addr → Value → Option Addr → TS) (Wout : WX) (D : Ends) : WX := fun cls d σ H =>
  ∃ b, PySem.W.exmOne K cls c1 = some b ∧ (b = true → ∀ a, H a = none → t1 a cls d D σ H) ∧ (b = false → wAs K c2 i t2 Wout D cls d σ H)
section
variable {X : Cx} {x1 x2 n : Str} {c1 c2 : Value} {i : Nat} {body s1 s2 : List Stmt} {b1 b2 : Stmt} {np1 np2 pos pos1 pos2 : Pos} {tb : WX → TS} {t1 t2 : Addr → Value → Option Addr → TS} {Wout : WX}
theorem ps_try_two (hs : X.stack = X.env :: X.outer) (hf : X.env.frame = some X.env.locals) (hN : X.N.Nodup) (hi : X.N[i]? = some n) (hln : X.env.kindOf n = some .local) (hc1 : Names X x1 c1) (hc2 : Names X x2 c2) (tk : Takes X Wout)
    (hb : ∀ (W : WX) (pn : List (Addr × Obj)) (xe : Value → Shared → Prop), Takes (X.tr pn xe) W → PassesOwn (model X.prog X.w) X.A X.env xe → PSs (X.tr pn xe) body (tb W))
    (hs1 : ∀ (a : Addr) (oe : Obj) (cls : Value) (d : Option Addr) (pn : List (Addr × Obj)), Zc cls d oe → (∃ vs, oe.data = .fields vs) → PSs (X.suite a ((a, oe) :: pn)) (b1 :: s1) (t1 a cls d))
    (hs2 : ∀ (a : Addr) (oe : Obj) (cls : Value) (d : Option Addr) (pn : List (Addr × Obj)), Zc cls d oe → (∃ vs, oe.data = .fields vs) → PSs (X.suite a ((a, oe) :: pn)) (b2 :: s2) (t2 a cls d)) :
    PS X (.Try body [.ExceptHandler (some (.Name x1 np1)) none (b1 :: s1) pos1, .ExceptHandler (some (.Name x2 np2)) (some n) (b2 :: s2) pos2] [] [] pos) (fun D σ H => tb (wTwo X.K c1 c2 i t1 t2 Wout D) D σ H) := by
  refine ⟨fun pins s σ H D I h => ?_⟩
  have ok := I.ok
  have hfr : X.A.frames = some (X.env :: X.outer) := by rw [ok.frames, hs]
  have hloc : Loc X.env.scope n := .inl hln
  refine wpAny_Try_except ?_
  refine wpAny_mono ((hb (wTwo X.K c1 c2 i t1 t2 Wout D) (X.pn ++ pins) (fun e s₁ => wpAny (model X.prog X.w) X.A (noteFrame e X.env) (fun _ s₂ => wpAny (model X.prog X.w) X.A (setFlight e none) (fun _ s₃ =>
    wpAny (model X.prog X.w) X.A (handleBy e X.env [.ExceptHandler (some (.Name x1 np1)) none (b1 :: s1) pos1, .ExceptHandler (some (.Name x2 np2)) (some n) (b2 :: s2) pos2]) (SP X pins D) X.xe s₃) X.xe s₂) X.xe s₁) (fun u s' xx => ?_) PassesOwn.looking).run [] s σ H D (I.toTry _) h) (fun f s1 hsp => ?_) (fun e s1 he => he)
  · -- the catch
    obtain ⟨a, B, sI, pins', σ', H', cls, d, rfl, J', nb, up, sky, na, os, ag, bb, hb1, hyes, hno⟩ := xx
    have J : Inv X pins σ' H' sI := J'.ofTry ok
    have sky' : Sky B (X.env :: X.outer) a (Zc cls d) X.env.locals s'.heap := by rw [← hs]; exact sky
    show wpAny (model X.prog X.w) X.A (noteFrame (.ref a) X.env) _ _ _
    refine Sky.land Zc.steady hfr hf sky' fun h3 fl3 up3 => ?_
    have J3 : Inv X pins σ' H' { s' with heap := h3 } := J.landed nb fl3.1 (up.trans up3) os ag
    obtain ⟨oe3, vs3, he3, hz3, hd3⟩ := fl3.there
    have notFr : ∀ {h : Heap} {o : Obj} {vs : Array Value}, h.FunFrames B (X.env :: X.outer) → h.get? a = some o → o.data = .fields vs → a ∉ frs (X.env :: X.outer) := fun {h o vs} ff e dd hm => by
      obtain ⟨_, o', e', hnf⟩ := ff.mem hm
      rw [e] at e'; cases e'
      exact hnf _ dd
    have nfr := notFr fl3.2.2.1 he3 hd3
    have nL : a ≠ X.env.locals := fun z => nfr (List.mem_filterMap.mpr ⟨X.env, List.mem_cons_self, by rw [hf, z]⟩)
    have nF : a ∉ X.fs := fun hm => by
      obtain ⟨e, he, q⟩ := List.mem_filterMap.mp hm
      exact nfr (List.mem_filterMap.mpr ⟨e, List.mem_cons_of_mem _ he, q⟩)
    have S3 := J3.suite he3 hd3 na nL nF
    have LT : PySem.W.Looks (model X.prog X.w) h3 (typeOf (.ref a)) cls := fun A Q E s k q => wpAny_typeOf_ref (k _ _ he3) (by rw [hz3.1]; exact q)
    have test : ∀ {x : Str} {c : Value} {np : Pos}, Names X x c → ∀ {Q : Value → Shared → Prop} {E : Value → Shared → Prop}, Q c { s' with heap := h3 } → wpAny (model X.prog X.w) (X.A.mark (some (.ref a))) (eval (.Name x np) X.env) Q E { s' with heap := h3 } := fun {x c np} hc {Q E} q => by
      obtain ⟨hg, hdbg, hm | ⟨hm, hv, hnn⟩⟩ := hc
      · exact ld_glob (X := X.suite a ((a, oe3) :: (X.pn ++ pins))) S3 hg hm q hdbg
      · exact ld_blt (X := X.suite a ((a, oe3) :: (X.pn ++ pins))) S3 hg hm hv q hnn hdbg
    refine wpAny_handleBy_cons (codeAny_handlers_test ?_) (by intro q; cases q)
    have LM1 := PySem.W.exm_one (M := model X.prog X.w) (J3.kIn) LT hb1
    refine test hc1 (LM1.here ?_)
    cases bb with
    | true =>
      refine codeAny_handlers_suite ?_
      refine HandSPX.lands_againZ fl3 fun h4 fl4 up4 => ?_
      have J4 : Inv X pins σ' H' { s' with heap := h4 } := J.landed nb fl4.1 ((up.trans up3).trans up4) os ag
      obtain ⟨oe4, vs4, he4, hz4, hd4⟩ := fl4.there
      have S4 := J4.suite he4 hd4 na nL nF
      refine wpAny_mono ((hs1 a oe4 cls d (X.pn ++ pins) hz4 ⟨_, hd4⟩).run [] _ _ H' _ S4 (hyes rfl a na)) (fun f s6 hsp => ?_) (fun _ _ z => False.elim z)
      cases f with
      | next =>
        obtain ⟨σ6, H6, S6, q6⟩ := hsp
        exact ⟨_, _, S6.unsuite ok, q6⟩
      | brk =>
        obtain ⟨σ6, H6, S6, q6⟩ := hsp
        exact ⟨_, _, S6.unsuite ok, q6⟩
      | cont =>
        obtain ⟨σ6, H6, S6, q6⟩ := hsp
        exact ⟨_, _, S6.unsuite ok, q6⟩
      | ret u =>
        obtain ⟨v6, σ6, H6, S6, r6, q6⟩ := hsp
        exact ⟨_, _, _, S6.unsuite ok, r6, q6⟩
    | false =>
      obtain ⟨b, hb2, hyes2, hno2⟩ := hno rfl
      show wpAny _ X.A (handleBy (.ref a) X.env [.ExceptHandler (some (.Name x2 np2)) (some n) (b2 :: s2) pos2]) _ _ _
      refine wpAny_handleBy_cons (codeAny_handlers_test ?_) (by intro q; cases q)
      have LM := PySem.W.exm_one (M := model X.prog X.w) (J3.kIn) LT hb2
      refine test hc2 (LM.here ?_)
      cases b with
      | true =>
        refine codeAny_handlers_suite_as ?_
        refine HandSPX.lands_againZ fl3 fun h4 fl4 up4 => ?_
        have J4 : Inv X pins σ' H' { s' with heap := h4 } := J.landed nb fl4.1 ((up.trans up3).trans up4) os ag
        obtain ⟨oe4, vs4, he4, hz4, hd4⟩ := fl4.there
        have S4 := J4.suite he4 hd4 na nL nF
        refine store_ok (X := X.suite a ((a, oe4) :: (X.pn ++ pins))) (v := .ref a) S4 hN hi hloc rfl (fun s5 S5 => ?_) (.inr hln)
        refine wpAny_mono ((hs2 a oe4 cls d (X.pn ++ pins) hz4 ⟨_, hd4⟩).run [] s5 _ H' _ S5 (hyes2 rfl a na)) (fun f s6 hsp => ?_) (fun _ _ z => False.elim z)
        have end_ : ∀ {σ6 : L2.St} {H6 : Hp} {Q : Shared → Prop}, Inv (X.suite a ((a, oe4) :: (X.pn ++ pins))) [] σ6 H6 s6 → (∀ s7, Inv X pins (σ6.set i none) H6 s7 → Q s7) →
            wpAny (model X.prog X.w) X.A (do bindName X.env n .none; unbindBehindTheSuite X.env n pos2) (fun _ s7 => Q s7) X.xe s6 := fun {σ6 H6 Q} S6 hq => gone_ok (S6.unsuite ok) hN hi hln hq
        cases f with
        | next =>
          obtain ⟨σ6, H6, S6, q6⟩ := hsp
          exact end_ S6 fun s7 J7 => ⟨_, _, J7, q6⟩
        | brk =>
          obtain ⟨σ6, H6, S6, q6⟩ := hsp
          exact end_ S6 fun s7 J7 => ⟨_, _, J7, q6⟩
        | cont =>
          obtain ⟨σ6, H6, S6, q6⟩ := hsp
          exact end_ S6 fun s7 J7 => ⟨_, _, J7, q6⟩
        | ret u =>
          obtain ⟨v6, σ6, H6, S6, r6, q6⟩ := hsp
          exact end_ S6 fun s7 J7 => ⟨_, _, _, J7, r6, q6⟩
      | false =>
        show wpAny _ X.A (handleBy (.ref a) X.env []) _ _ _
        refine wpAny_handleBy_nil ?_
        obtain ⟨k1, k2, k3, oe, vs, T, oT, ts', he, hz, hd, h1, hr⟩ := id fl3
        unfold PySem.passOn
        refine wpAny_bind (wpAny_field he hd h1 ?_)
        rw [if_neg (show ¬ ((Value.ref T == Value.none) = true) from by simp)]
        have fin : wpAny (model X.prog X.w) X.A (setFlight (.ref a) X.env.frame) (fun _ s4 => wpAny (model X.prog X.w) X.A (throw (.ref a) : Sem Flow) (SP X pins D) X.xe s4) X.xe { s' with heap := h3 } := by
          rw [hf]
          refine HandSPX.setFlight_upZ fl3 fun h4 hh4 up4 => wpAny_throw (tk _ _ ?_)
          exact ⟨a, B, sI, pins, σ', H', cls, d, rfl, J, nb, (up.trans up3).trans up4, .inr (.inr (by rw [hs]; exact hh4)), na, os, ag, hno2 rfl⟩
        first
          | exact wpAny_bind (wpAny_pure (wpAny_bind fin))
          | exact wpAny_bind fin
  · cases f with
    | next =>
      obtain ⟨σ', H', J', q⟩ := hsp
      exact wpAny_execs_nil ⟨σ', H', J'.ofTry ok, q⟩
    | brk =>
      obtain ⟨σ', H', J', q⟩ := hsp
      exact ⟨σ', H', J'.ofTry ok, q⟩
    | cont =>
      obtain ⟨σ', H', J', q⟩ := hsp
      exact ⟨σ', H', J'.ofTry ok, q⟩
    | ret u =>
      obtain ⟨v, σ', H', J', r, q⟩ := hsp
      exact ⟨v, σ', H', J'.ofTry ok, r, q⟩
end
end VF
set_option maxHeartbeats 4000000
/-! ## BG. _law_cut -/
namespace VF
open PySem L2
abbrev s42 : Stmt := top 42
/-- which error is which -/
structure ExmC (K : PySem.W.Frag) (CB CN : Addr) : Prop where
  bb : PySem.W.exmOne K (.ref CB) (.ref CB) = some true
  nb : PySem.W.exmOne K (.ref CN) (.ref CB) = some false
  nn : PySem.W.exmOne K (.ref CN) (.ref CN) = some true
  xf : XfC K CN
  no : PySem.W.findIn K (.ref CN) "name" = some none
/-- a method that may raise -/
structure MetX (P : Program) (w : World) (K : PySem.W.Frag) (mg : Str → Option Value) (base : Heap) (k : Nat) (C : Addr) (m : Str) (sp : Sp) : Prop where
  ex : ∃ (f : Addr) (fd : FuncData) (ps : List Str), Cls K C ∧ Meth K C m f ∧ FnOk P w K mg base (L2.CX P w) k f fd ps sp ∧ Binds K fd ps []
def tMethS (C : Addr) (m : Str) (sp : Sp) (E : St → XK) (ta : TE) (t : TA) : TE := fun σ H Q => ta σ H fun x H1 => ∃ a dx fs, x = .ref a ∧ H1 a = some (.ins C dx fs) ∧ fs.lookup m = none ∧ t σ H1 fun vs H2 => sp (x :: vs) H2 Q (E σ)
section
variable {X : Cx} {k j : Nat} {C : Addr} {m : Str} {sp : Sp} {E : L2.St → XK} {p pos apos : Pos} {e o : Expr} {es : List Expr} {ta : TE} {t : TA}
theorem pe_methS {pl : Sem Bool} (M : MetX X.prog X.w X.K X.mg X.base k C m sp) (hr : Room j X.A) (hk : k ≤ j) (hx : ∀ σ, PassesAt (L2.CX X.prog X.w) X σ (E σ)) (he : PE X o ta) (ha : PA X (e :: es) t)
    (hst : starEach (e :: es) X.env = (false, eval e X.env) :: starEach es X.env := by rfl) (hpl : (backTo pos (starEach es X.env)).any (·.1) = false := by rfl)
    (ht : eval (.Call (.Attribute o m apos) (e :: es) [] pos) X.env = (do
      let ov ← eval o X.env
      standAt apos.atName
      let (f, first) ← holding [ov] (getMethod ov m pl)
      callWith pos f first (backTo pos (starEach (e :: es) X.env)) (backToKw pos (keywordEach [] X.env))) := by rfl) :
    PE X (.Call (.Attribute o m apos) (e :: es) [] pos) (tMethS C m sp E ta t) := by
  obtain ⟨f, fd, ps, c, hm, F, hb⟩ := M.ex
  refine ⟨fun pins s σ H Q I h => ?_⟩
  refine PySem.W.methodCall_KW (pl := pl) (thn (he.run pins s σ H _ I h) fun u s1 ⟨x, H1, I1, rx, a, dx, fs, ex, ea, l, q⟩ => ?_) ht
  subst ex
  obtain rfl : u = Value.ref a := rx
  refine getmeth_ok I1 ea c hm l ?_
  refine PySem.W.callWith_K (first := [.ref a]) (h₀ := X.base) I.ok.mod.kin hm.kp (thn (ha.run pos pins s1 σ H1 _ I1 q) fun us s2 ⟨vs, H2, I2, r, q2⟩ => ⟨I2.kIn, ?_⟩) hst hpl
  exact run_fnS (us := .ref a :: us) (vs := .ref a :: vs) F (hr.mono hk) hb (hx σ) I2 (.cons rfl r) q2
end
section
variable {K : PySem.W.Frag} {C CB CN : Addr} {H : Hp} {os : List Str} {rs : List (Bal × Int)} {Q Q' : VK} {E E' : XK} {v : V}
theorem OnlyA.mono (h : OnlyA K C CB CN H os rs Q E v) (q : ∀ v H', Q v H' → Q' v H') (e : ∀ c d H', E c d H' → E' c d H') : OnlyA K C CB CN H os rs Q' E' v := by
  cases h with
  | lst h b => exact .lst h fun d H' s => e _ _ _ (b d H' s)
  | nt h t b => exact .nt h t fun d H' s => e _ _ _ (b d H' s)
  | tup h g l st k1 k2 k3 k4 => exact .tup h g l st (fun z d H' s => e _ _ _ (k1 z d H' s)) (fun xs a b c z d H' s => e _ _ _ (k2 xs a b c z d H' s)) (fun xs a b c i x d f g dd H' s hd => e _ _ _ (k3 xs a b c i x d f g dd H' s hd)) (fun xs a b c d f v H' s hl => q _ _ (k4 xs a b c d f v H' s hl))
end
/-- what _law_cut makes of the errors -/
def ELaw (K : PySem.W.Frag) (CB CN : Addr) (Q : VK) : XK := fun cls d H' => (cls = .ref CB ∧ Q (.str "poll") H') ∨ (cls = .ref CN ∧ ∃ (dd : Addr) (x : Str), d = some dd ∧ H' dd = some (.xd [("name", .str x)]) ∧ ∀ v' H2, Same H' H2 → Dt K H2 v' (.tuple [.str "none", .str x]) → Q v' H2)
def spLCut (K : PySem.W.Frag) (C CB CN : Addr) : Sp := fun vs H Q _ => ∃ (v1 v : V) (os : List Str) (rs : List (Bal × Int)), vs = [v1, v] ∧ Pl K C H v1 os rs ∧ OkO os ∧ (∀ x ∈ rs, OkR os x) ∧ rs.length ≤ 30 ∧ OnlyA K C CB CN H os rs Q (ELaw K CB CN Q) v
section
variable {P : Program} {w : World} {K : PySem.W.Frag} {mg : Str → Option Value} {base : Heap} {C CB CN : Addr}
theorem scLC : FnScope ["_law_poll", "_law_some", "_law_found", "e"] ["_law_poll", "_law_some"] (defScope s42) := ⟨rfl, rfl, rfl, by decide +kernel, rfl, by decide +kernel, by decide +kernel⟩
theorem ok_lcut {f : Addr} {fd : FuncData} (F : Fun K "_law_cut" "_law_cut" s42 f fd) (mB : mg "BadPoll" = some (.ref CB)) (mN : mg "NoOption" = some (.ref CN)) (G : ExmC K CB CN) (M : MetX P w K mg base 8 C "only" (spOnly K C CB CN)) : FnOk P w K mg base CX0 9 f fd ["_law_poll", "_law_some"] (spLCut K C CB CN) := by
  refine F.ok scLC (fun vs H Q E h => ?_) (fun cdv A outer s H vs Q E hr h => ?_)
  · obtain ⟨v1, v, os, rs, rfl, _⟩ := h
    rfl
  · obtain ⟨v1, v, os, rs, rfl, hl, oo, hR, hz, ar⟩ := h
    have hl0 := hl
    obtain ⟨p, dx, o, r, rfl, hp, ho, hv⟩ := hl.ex
    refine ⟨_, pss_cons (ps_set (i := 2) scLC.nd rfl (Or.inl rfl) pe_non)
      (pss_cons (ps_try_two (i := 3) (c1 := .ref CB) (c2 := .ref CN) rfl rfl scLC.nd rfl rfl ⟨rfl, by decide, .inl mB⟩ ⟨rfl, by decide, .inl mN⟩ takes0
        (fun W pn xe tk _ => pss_one (ps_set (i := 2) scLC.nd rfl (Or.inl rfl) (pe_methS (E := WE W) M hr (by decide) (fun σ => passAt tk σ) (pv 0) (pa_cons (pv 1) pa_nil))))
        (fun a oe cls d pn _ _ => pss_one (ps_set (i := 2) scLC.nd rfl (Or.inl rfl) pe_str))
        (fun a oe cls d pn hz hf => pss_one (ps_set (i := 2) scLC.nd rfl (Or.inl rfl) (pe_tup (pa_cons pe_str (pa_cons (pe_xf G.xf G.no hz hf (pv 3)) pa_nil))))))
      (pss_one (ps_ret (pv 2)))), ?_⟩
    refine ⟨_, rfl, p, dx, _, rfl, hp, rfl, _, rfl, .ref p, v, os, rs, rfl, hl0, oo, hR, hz, ar.mono (fun v' H' q => ?_) fun c d H' q => ?_⟩
    · exact ⟨_, rfl, q⟩
    · rcases q with ⟨rfl, q⟩ | ⟨rfl, dd, x, rfl, hd, q⟩
      · exact ⟨true, G.bb, (fun _ a ha => ⟨_, rfl, q⟩), fun z => by cases z⟩
      · refine ⟨false, G.nb, (fun z => by cases z), fun _ => ⟨true, G.nn, (fun _ a ha => ?_), fun z => by cases z⟩⟩
        refine ⟨_, rfl, rfl, rfl, dd, _, .str x, rfl, hd, rfl, Nat.le_of_ble_eq_true rfl, fun t ht => ⟨_, rfl, q _ _ (L2.Same.put ht) (.new upd_same (.cons (.str _) (.cons (.str _) .nil)))⟩⟩
end
end VF
set_option maxHeartbeats 4000000
/-! ## BH. the well, one draw -/
namespace VF
open PySem L2
abbrev s29 : Stmt := top 29
abbrev s30 : Stmt := top 30
abbrev s31 : Stmt := top 31
/-- the well at a, n draws made at most -/
def Well (H : Hp) (a : Addr) (n : Nat) : Prop := ∃ x m c : Int, H a = some (.lst [.int x, .int m, .int c]) ∧ 0 ≤ m ∧ m < 2147483629 ∧ 0 ≤ c ∧ c ≤ (n : Int)
/-- all stands as before, but what is at a -/
def Sw (a : Addr) (H H' : Hp) : Prop := ∀ b u, b ≠ a → H b = some u → H' b = some u
theorem Sw.refl (a : Addr) (H : Hp) : Sw a H H := fun _ _ _ h => h
theorem Sw.trans {a : Addr} {H H1 H2 : Hp} (p : Sw a H H1) (q : Sw a H1 H2) : Sw a H H2 := fun b u n h => q b u n (p b u n h)
theorem Sw.of {a : Addr} {H H' : Hp} (s : Same H H') : Sw a H H' := fun b u _ h => s b u h
theorem Sw.upd {a : Addr} {H : Hp} (o : HO) : Sw a H (upd H a o) := fun b u n h => by rw [upd_ne n]; exact h
theorem Well.same {a : Addr} {n : Nat} {H H' : Hp} (s : Same H H') (h : Well H a n) : Well H' a n := by
  obtain ⟨x, m, c, e, r⟩ := h
  exact ⟨x, m, c, s _ _ e, r⟩
theorem Well.mono {a : Addr} {n k : Nat} {H : Hp} (h : Well H a n) (hk : n ≤ k) : Well H a k := by
  obtain ⟨x, m, c, e, h1, h2, h3, h4⟩ := h
  exact ⟨x, m, c, e, h1, h2, h3, by omega⟩
theorem Well.soft {a : Addr} {n : Nat} {H : Hp} (h : Well H a n) : Soft (H a) := by
  obtain ⟨x, m, c, e, _⟩ := h
  rw [e]
  exact Soft.lst
/-- tuples stay -/
theorem Sw.tk {K : PySem.W.Frag} {a : Addr} {H H' : Hp} (s : Sw a H H') (h : Soft (H a)) : Tk K H H' := by
  refine ⟨fun b xs q => ?_, fun b ob u q => ?_⟩
  · rcases q with (q | ⟨ob, q⟩) | q
    · exact .inl (.inl (s b _ (fun e => h.1 xs (by rw [← e]; exact q)) q))
    · exact .inl (.inr ⟨ob, s b _ (fun e => h.2 ob _ (by rw [← e]; exact q)) q⟩)
    · exact .inr q
  · exact s b _ (fun e => h.2 ob u (by rw [← e]; exact q)) q
theorem Sw.dt {K : PySem.W.Frag} {a : Addr} {n : Nat} {H H' : Hp} {v : V} {d : PyData} (s : Sw a H H') (w : Well H a n) (h : Dt K H v d) : Dt K H' v d := h.mono (s.tk w.soft)
def spDraw : Sp := fun vs H Q _ => ∃ (wl : Addr) (size : Int) (n : Nat), vs = [.ref wl, .int size] ∧ Well H wl n ∧ n ≤ 1000000 ∧ 0 < size ∧ size < 1073741824 ∧ ∀ d H', 0 ≤ d → d < size → Sw wl H H' → Well H' wl (n + 1) → Q (.int d) H'
def spWell : Sp := fun vs H Q _ => ∃ c : Int, vs = [.int c] ∧ ∀ wl H', Same H H' → H wl = none → Well H' wl 0 → Q (.ref wl) H'
section
variable {P : Program} {w : World} {K : PySem.W.Frag} {mg : Str → Option Value} {base : Heap}
theorem sc30 : FnScope ["_law_well_here", "_law_size", "_law_digit", "_law_mix"] ["_law_well_here", "_law_size"] (defScope s30) := ⟨rfl, rfl, rfl, by decide +kernel, rfl, by decide +kernel, by decide +kernel⟩
theorem ok_draw {f : Addr} {fd : FuncData} (F : Fun K "_law_draw" "_law_draw" s30 f fd) : FnOk P w K mg base CX0 1 f fd ["_law_well_here", "_law_size"] spDraw := by
  refine F.ok sc30 (fun vs H Q E h => ?_) (fun cdv A outer s H vs Q E hr h => ?_)
  · obtain ⟨wl, size, n, rfl, _⟩ := h
    rfl
  · obtain ⟨wl, size, n, rfl, hw, hn, h0, h1, k⟩ := h
    obtain ⟨x, m, c, hx, m0, m1, c0, c1⟩ := hw
    refine ⟨_, pss_cons (ps_if (pt_cmpR op_gt (pe_ix ix_list (pv 0) pe_int (fun _ _ => rfl)) pe_int (nomark _))
        (pss_cons (ps_set (i := 2) sc30.nd rfl (Or.inl rfl) (pe_op op_mod (pe_ix ix_list (pv 0) pe_int (fun _ _ => rfl)) (pv 1)))
        (pss_cons (ps_asg (pe_op op_fdiv (pe_ix ix_list (pv 0) pe_int (fun _ _ => rfl)) (pv 1)) (pg_sub (pv 0) pe_int set_list))
        (pss_one (ps_ret (pv 2)))))
        pss_nil)
      (pss_cons (ps_asg (pe_op op_add (pe_ix ix_list (pv 0) pe_int (fun _ _ => rfl)) pe_int) (pg_sub (pv 0) pe_int set_list))
      (pss_cons (ps_set (i := 3) sc30.nd rfl (Or.inl rfl) (pe_op op_mod (pe_op op_pow (pe_op op_add (pe_op op_add (pe_ix ix_list (pv 0) pe_int (fun _ _ => rfl)) (pe_op op_mul pe_int (pe_ix ix_list (pv 0) pe_int (fun _ _ => rfl)))) pe_int) pe_int) pe_int))
      (pss_cons (ps_set (i := 3) sc30.nd rfl (Or.inl rfl) (pe_op op_mod (pe_op op_mul (pv 3) (pe_op op_add (pe_op op_add (pe_op op_fdiv (pv 3) pe_int) pe_int) (pe_ix ix_list (pv 0) pe_int (fun _ _ => rfl)))) pe_int))
      (pss_one (ps_ret (pe_op op_mod (pe_op op_mod (pe_op op_mul (pv 3) (pe_op op_add (pe_op op_fdiv (pv 3) pe_int) pe_int)) pe_int) (pv 1))))))), ?_⟩
    refine ⟨_, rfl, wl, _, _, .int x, rfl, rfl, SqL.of hx, rfl, _, _, rfl, rfl, _, rfl, ?_⟩
    by_cases px : x > 0
    · rw [decide_eq_true px]
      refine iteT ?_
      refine ⟨_, rfl, wl, _, _, .int x, rfl, rfl, SqL.of hx, rfl, _, rfl, x, size, rfl, rfl, h0, ?_⟩
      refine ⟨_, rfl, wl, _, _, .int x, rfl, rfl, SqL.of hx, rfl, _, rfl, x, size, rfl, rfl, ⟨h0, h1⟩, ?_⟩
      refine ⟨_, rfl, wl, _, _, 0, rfl, rfl, hx, rfl, ?_⟩
      exact ⟨_, rfl, k (x % size) _ (Int.emod_nonneg _ (by omega)) (Int.emod_lt_of_pos _ h0) (Sw.upd _) ⟨_, m, c, upd_same, m0, m1, c0, by omega⟩⟩
    · rw [decide_eq_false px]
      refine iteF ?_
      refine ⟨_, rfl, wl, _, _, .int c, rfl, rfl, SqL.of hx, rfl, c, 1, rfl, rfl, ?_⟩
      refine ⟨_, rfl, wl, _, _, 2, rfl, rfl, hx, rfl, ?_⟩
      have hx2 : upd H wl (.lst ([V.int x, V.int m, V.int c].set 2 (.int (c + 1)))) wl = some (.lst [.int x, .int m, .int (c + 1)]) := upd_same
      refine ⟨_, rfl, wl, _, _, .int m, rfl, rfl, SqL.of hx2, rfl, _, rfl, wl, _, _, .int (c + 1), rfl, rfl, SqL.of hx2, rfl, 7919, c + 1, rfl, rfl, .inl ⟨by decide, by decide⟩, m, 7919 * (c + 1), rfl, rfl, _, 1, rfl, rfl, _, 5, rfl, rfl, ⟨by decide, by decide, by omega⟩, _, 2147483647, rfl, rfl, (by show (0 : Int) < 2147483647; decide), ?_⟩
      have b0 : 0 ≤ (m + 7919 * (c + 1) + 1) ^ Int.toNat 5 % 2147483647 := Int.emod_nonneg _ (by decide)
      have b1 : (m + 7919 * (c + 1) + 1) ^ Int.toNat 5 % 2147483647 < 2147483647 := Int.emod_lt_of_pos _ (by decide)
      obtain ⟨y, ey, b0, b1⟩ : ∃ y, (m + 7919 * (c + 1) + 1) ^ Int.toNat 5 % 2147483647 = y ∧ 0 ≤ y ∧ y < 2147483647 := ⟨_, rfl, b0, b1⟩
      refine ⟨_, rfl, _, rfl, y, 1009, congrArg V.int ey, rfl, ⟨by decide, by decide⟩, _, 69621, rfl, rfl, _, rfl, wl, _, _, .int (c + 1), rfl, rfl, SqL.of hx2, rfl, _, c + 1, rfl, rfl, y, _, congrArg V.int ey, rfl, .inl ⟨by omega, by omega⟩, _, 2147483629, rfl, rfl, (by show (0 : Int) < 2147483629; decide), ?_⟩
      have d0 : 0 ≤ y * (y / 1009 + 69621 + (c + 1)) % 2147483629 := Int.emod_nonneg _ (by decide)
      have d1 : y * (y / 1009 + 69621 + (c + 1)) % 2147483629 < 2147483629 := Int.emod_lt_of_pos _ (by decide)
      obtain ⟨z, ez, d0, d1⟩ : ∃ z, y * (y / 1009 + 69621 + (c + 1)) % 2147483629 = z ∧ 0 ≤ z ∧ z < 2147483629 := ⟨_, rfl, d0, d1⟩
      refine ⟨_, rfl, _, rfl, z, 2003, congrArg V.int ez, rfl, ⟨by decide, by decide⟩, _, 40692, rfl, rfl, z, _, congrArg V.int ez, rfl, .inl ⟨by omega, by omega⟩, _, 2147483399, rfl, rfl, (by show (0 : Int) < 2147483399; decide), _, rfl, _, size, rfl, rfl, h0, ?_⟩
      exact k _ _ (Int.emod_nonneg _ (by omega)) (Int.emod_lt_of_pos _ h0) (Sw.upd _) ⟨x, m, c + 1, upd_same, m0, m1, by omega, by omega⟩
end
end VF
set_option maxHeartbeats 4000000
/-! ## BI. _law_well, _law_one, _law_cell_at -/
namespace VF
open PySem L2
abbrev s28 : Stmt := top 28
def spOne : Sp := fun vs H Q _ => ∃ (wl a : Addr) (n : Nat) (xs : List V), vs = [.ref wl, .ref a] ∧ Well H wl n ∧ n ≤ 1000000 ∧ a ≠ wl ∧ H a = some (.lst xs) ∧ 1 ≤ xs.length ∧ xs.length ≤ 1000 ∧ ∀ (i : Nat) (x : V) (H' : Hp), xs[i]? = some x → Sw wl H H' → Well H' wl (n + 1) → Q x H'
def spCell (K : PySem.W.Frag) : Sp := fun vs H Q _ => ∃ (a : Addr) (ns : List Int), vs = [.ref a, .int 0] ∧ SqL K H a (ns.map V.int) ∧ ∀ i : Int, Q (.int i) H
/-- the item at a place drawn -/
theorem atI_draw {xs : List V} {d : Int} (h0 : 0 ≤ d) (h1 : d < (xs.length : Int)) : ∃ x, atI xs d = some x ∧ xs[d.toNat]? = some x := by
  have hi : d.toNat < xs.length := by omega
  refine ⟨xs[d.toNat], ?_, List.getElem?_eq_getElem hi⟩
  unfold atI ixN
  rw [if_pos h0, if_pos h1]
  exact List.getElem?_eq_getElem hi
theorem ix_b (k : Bool) (a b : Int) : atI [V.int a, V.int b] (if k = true then 1 else 0) = some (V.int (if k = true then b else a)) := by cases k <;> rfl
section
variable {P : Program} {w : World} {K : PySem.W.Frag} {mg : Str → Option Value} {base : Heap}
theorem sc29 : FnScope ["_law_cell"] ["_law_cell"] (defScope s29) := ⟨rfl, rfl, rfl, by decide +kernel, rfl, by decide +kernel, by decide +kernel⟩
theorem ok_well {f : Addr} {fd : FuncData} (F : Fun K "_law_well" "_law_well" s29 f fd) (B : Bt mg) : FnOk P w K mg base CX0 1 f fd ["_law_cell"] spWell := by
  refine F.ok sc29 (fun vs H Q E h => ?_) (fun cdv A outer s H vs Q E hr h => ?_)
  · obtain ⟨c, rfl, _⟩ := h
    rfl
  · obtain ⟨c, rfl, k⟩ := h
    refine ⟨_, pss_one (ps_ret (pe_lst (pa_cons (pe_ix ix_list (pe_lst (pa_cons pe_int (pa_cons (pv 0) pa_nil))) (pe_callTy call_int1 (by rfl) B.tyInt (by decide +kernel) (pa_cons (pe_cmpR op_ge (pv 0) (pe_op op_pow pe_int pe_int) (nomark _)) pa_nil)) (fun _ _ => rfl)) (pa_cons (pe_op op_mod (pv 0) pe_int) (pa_cons pe_int pa_nil))))), ?_⟩
    refine ⟨_, rfl, Nat.le_of_ble_eq_true rfl, fun l hl => ?_⟩
    refine ⟨_, rfl, 10, 18, rfl, rfl, ⟨by decide, by decide, by decide⟩, c, _, rfl, rfl, .inr ⟨_, rfl, ?_⟩⟩
    have s1 : Same H (upd H l (.lst [.int 0, .int c])) := L2.Same.put hl
    have fin : ∀ x m : Int, 0 ≤ m → m < 2147483629 → ∀ l2, upd H l (.lst [.int 0, .int c]) l2 = none → Q (.ref l2) (upd (upd H l (.lst [.int 0, .int c])) l2 (.lst [.int x, .int m, .int 0])) := fun x m h0 h1 l2 hl2 => by
      refine k l2 _ (s1.trans (L2.Same.put hl2)) ?_ ⟨x, m, 0, upd_same, h0, h1, by decide, by decide⟩
      by_cases e : l2 = l
      · rw [e, upd_same] at hl2
        cases hl2
      · rwa [upd_ne e] at hl2
    refine ⟨l, _, _, _, rfl, rfl, SqL.of upd_same, ix_b _ _ _, ?_⟩
    refine ⟨_, rfl, c, 2147483629, rfl, rfl, (by show (0 : Int) < 2147483629; decide), Nat.le_of_ble_eq_true rfl, fun l2 hl2 => ?_⟩
    exact fin _ _ (Int.emod_nonneg _ (by decide)) (Int.emod_lt_of_pos _ (by decide)) l2 hl2
theorem sc31 : FnScope ["_law_well_here", "_law_some"] ["_law_well_here", "_law_some"] (defScope s31) := ⟨rfl, rfl, rfl, by decide +kernel, rfl, by decide +kernel, by decide +kernel⟩
theorem ok_one {f : Addr} {fd : FuncData} (F : Fun K "_law_one" "_law_one" s31 f fd) (B : Bt mg) (U : C8.Cal P w K mg base 1 "_law_draw" spDraw []) : FnOk P w K mg base CX0 2 f fd ["_law_well_here", "_law_some"] spOne := by
  refine F.ok sc31 (fun vs H Q E h => ?_) (fun cdv A outer s H vs Q E hr h => ?_)
  · obtain ⟨wl, a, n, xs, rfl, _⟩ := h
    rfl
  · obtain ⟨wl, a, n, xs, rfl, hw, hn, ne, ha, h1, h2, k⟩ := h
    refine ⟨_, pss_one (ps_ret (pe_ix ix_list (pv 1) (C8.pe_c U hr (by decide) (by rfl) (pa_cons (pv 0) (pa_cons (e_len (K := K) B.len (pv 1)) pa_nil))) (fun _ _ => rfl))), ?_⟩
    refine ⟨_, rfl, _, rfl, _, rfl, a, xs, rfl, .inl (SqL.of ha), wl, _, n, rfl, hw, hn, by omega, by omega, fun d H1 d0 d1 sw hw1 => ?_⟩
    obtain ⟨x, e1, e2⟩ := atI_draw d0 d1
    exact ⟨a, xs, d, x, rfl, rfl, SqL.of (sw a _ ne ha), e1, k _ _ _ e2 sw hw1⟩
theorem sc28 : FnScope ["_law_script", "_law_k"] ["_law_script", "_law_k"] (defScope s28) := ⟨rfl, rfl, rfl, by decide +kernel, rfl, by decide +kernel, by decide +kernel⟩
theorem ok_cell {f : Addr} {fd : FuncData} (F : Fun K "_law_cell_at" "_law_cell_at" s28 f fd) (B : Bt mg) : FnOk P w K mg base CX0 1 f fd ["_law_script", "_law_k"] (spCell K) := by
  refine F.ok sc28 (fun vs H Q E h => ?_) (fun cdv A outer s H vs Q E hr h => ?_)
  · obtain ⟨a, ns, rfl, _⟩ := h
    rfl
  · obtain ⟨a, ns, rfl, ha, k⟩ := h
    refine ⟨_, pss_cons (ps_if (pt_cmpR op_lt (pv 1) (e_len (K := K) B.len (pv 0)) (nomark _)) (pss_one (ps_ret (pe_ix ix_list (pv 0) (pv 1) (fun _ _ => rfl)))) pss_nil)
      (pss_one (ps_ret pe_int)), ?_⟩
    refine ⟨_, rfl, _, rfl, a, _, rfl, .inl ha, _, _, rfl, rfl, _, rfl, ?_⟩
    cases ns with
    | nil => exact iteF (k 0)
    | cons z r =>
      rw [decide_eq_true (show (0 : Int) < (((z :: r).map V.int).length : Int) by rw [List.length_map, List.length_cons]; omega)]
      refine iteT ⟨_, rfl, _, rfl, a, _, 0, .int z, rfl, rfl, ha, ?_, k z⟩
      unfold atI ixN
      rw [if_pos (by decide), if_pos (by rw [List.length_map, List.length_cons]; omega)]
      rfl
end
end VF
set_option maxHeartbeats 4000000
/-! ## BJ. _law_options -/
namespace VF
open PySem L2
abbrev s32 : Stmt := top 32
theorem alph_at : ∀ j : Nat, j < 26 → alph.cps.toList[j]? = some (97 + j) := by decide +kernel
theorem alph_len : alph.cps.toList.length = 26 := by decide +kernel
theorem alph_draw {d : Int} (h0 : 0 ≤ d) (h1 : d < 26) : atI alph.cps.toList d = some (97 + d.toNat) := by
  unfold atI ixN
  rw [alph_len, if_pos h0, if_pos (show d < ((26 : Nat) : Int) by omega)]
  exact alph_at _ (by omega)
theorem letter_draw {d : Nat} (h1 : d < 26) : isLetter (97 + d) = true := decide_eq_true (List.mem_of_getElem? (alph_at d h1))
theorem cps_app (x y : Str) : (x ++ y).cps.toList = x.cps.toList ++ y.cps.toList := by
  show (x.cps ++ y.cps).toList = _
  exact Array.toList_append ..
theorem len_cps (x : Str) : x.length = x.cps.toList.length := by
  show x.cps.size = _
  exact (Array.length_toList ..).symm
theorem len_app (x : Str) (c : Nat) : (x ++ (⟨#[c]⟩ : Str)).length = x.length + 1 := by
  rw [len_cps, cps_app, List.length_append, ← len_cps]
  rfl
theorem all_app {x : Str} {c : Nat} (h : x.cps.toList.all isLetter = true) (hc : isLetter c = true) : (x ++ (⟨#[c]⟩ : Str)).cps.toList.all isLetter = true := by
  rw [cps_app, List.all_append, h]
  simp [hc]
/-- the words made so far, told apart by their last letters -/
def PO (f : Int) (os : List Str) : Prop := ∀ (j : Nat) (x : Str), os[j]? = some x → isNameS x = true ∧ x.cps.toList.getLast? = some (97 + ((f + 3 * (j : Int)) % 26).toNat)
theorem PO.snoc {f : Int} {os : List Str} {x : Str} (h : PO f os) (hx : isNameS x = true ∧ x.cps.toList.getLast? = some (97 + ((f + 3 * (os.length : Int)) % 26).toNat)) : PO f (os ++ [x]) := by
  intro j y hy
  by_cases hj : j < os.length
  · rw [List.getElem?_append_left hj] at hy
    exact h j y hy
  · have hl := (List.getElem?_eq_some_iff.mp hy).1
    rw [List.length_append] at hl
    have e : j = os.length := by
      have : ([x] : List Str).length = 1 := rfl
      omega
    subst e
    rw [List.getElem?_append_right (Nat.le_refl _), Nat.sub_self] at hy
    cases hy
    exact hx
theorem PO.okO {f : Int} {os : List Str} (h : PO f os) (h1 : 1 ≤ os.length) (h6 : os.length ≤ 6) : OkO os := by
  refine ⟨h1, h6, fun x hx => ?_, (unlike_iff os).mpr ?_⟩
  · obtain ⟨j, hj, rfl⟩ := List.mem_iff_getElem.mp hx
    exact (h j _ (List.getElem?_eq_getElem hj)).1
  · rw [List.Nodup, List.pairwise_iff_getElem]
    intro i j hi hj hij e
    have q1 := (h i _ (List.getElem?_eq_getElem hi)).2
    have q2 := (h j _ (List.getElem?_eq_getElem hj)).2
    rw [e, q2] at q1
    have q3 := Option.some.inj q1
    omega
theorem Sw.over {a p : Addr} {o : HO} {H H' : Hp} (s : Sw a H H') (hp : H p = none) : Sw a H (L2.upd H' p o) := fun b u n h => by
  rw [upd_ne (ne_of_none h hp)]
  exact s b u n h
theorem Well.upd {a p : Addr} {n : Nat} {H : Hp} {o : HO} (w : Well H a n) (ne : p ≠ a) : Well (L2.upd H p o) a n := by
  obtain ⟨x, m, c, e, r⟩ := w
  exact ⟨x, m, c, by rw [upd_ne (Ne.symm ne)]; exact e, r⟩
theorem Well.ne {a p : Addr} {n : Nat} {H : Hp} (w : Well H a n) (hp : H p = none) : p ≠ a := fun e => by
  obtain ⟨x, m, c, h, _⟩ := w
  rw [e, h] at hp
  cases hp
theorem Well.same' {a : Addr} {n : Nat} {H H' : Hp} (w : Well H a n) (s : Same H H') : Well H' a n := w.same s
def spOptions (K : PySem.W.Frag) : Sp := fun vs H Q _ => ∃ (wl : Addr) (size : Int) (n : Nat), vs = [.ref wl, .int size] ∧ Well H wl n ∧ n ≤ 999000 ∧ 2 ≤ size ∧ size ≤ 6 ∧
  ∀ v os H', Sw wl H H' → Well H' wl (n + 60) → Dt K H' v (dN os) → OkO os → (os.length : Int) = size → Q v H'
section
variable {P : Program} {w : World} {K : PySem.W.Frag} {mg : Str → Option Value} {base : Heap}
theorem sc32 : FnScope ["_law_well_here", "_law_size", "_law_letters", "_law_first", "_law_found", "_law_k", "_law_word", "_law_j"] ["_law_well_here", "_law_size"] (defScope s32) := ⟨rfl, rfl, rfl, by decide +kernel, rfl, by decide +kernel, by decide +kernel⟩
theorem ok_options {f : Addr} {fd : FuncData} (F : Fun K "_law_options" "_law_options" s32 f fd) (B : Bt mg) (U : C8.Cal P w K mg base 1 "_law_draw" spDraw []) : FnOk P w K mg base CX0 2 f fd ["_law_well_here", "_law_size"] (spOptions K) := by
  refine F.ok sc32 (fun vs H Q E h => ?_) (fun cdv A outer s H vs Q E hr h => ?_)
  · obtain ⟨wl, size, n, rfl, _⟩ := h
    rfl
  · obtain ⟨wl, size, n, rfl, hw, hn, z2, z6, k⟩ := h
    refine ⟨_, pss_cons (ps_set (i := 2) sc32.nd rfl (Or.inl rfl) pe_str)
      (pss_cons (ps_set (i := 3) sc32.nd rfl (Or.inl rfl) (C8.pe_c U hr (by decide) (by rfl) (pa_cons (pv 0) (pa_cons pe_int pa_nil))))
      (pss_cons (ps_set (i := 4) sc32.nd rfl (Or.inl rfl) (pe_lst pa_nil))
      (pss_cons (ps_for PassesOwn.never rfl (pi_range1 (by rfl) B.rng (pa_cons (pv 1) pa_nil)) (pg_name (i := 5) sc32.nd rfl (Or.inl rfl))
        (pss_cons (ps_set (i := 6) sc32.nd rfl (Or.inl rfl) pe_str)
        (pss_cons (ps_for PassesOwn.never rfl (pi_range1 (by rfl) B.rng (pa_cons (C8.pe_c U hr (by decide) (by rfl) (pa_cons (pv 0) (pa_cons pe_int pa_nil))) pa_nil)) (pg_name (i := 7) sc32.nd rfl (Or.inl rfl))
          (pss_one (ps_set (i := 6) sc32.nd rfl (Or.inl rfl) (pe_op op_add_str (pv 6) (pe_ix ix_str (pv 2) (C8.pe_c U hr (by decide) (by rfl) (pa_cons (pv 0) (pa_cons pe_int pa_nil))) (fun _ _ => rfl))))))
        (pss_one (ps_expr (pe_bm PySem.F.plainAttrs_list PySem.F.slot_list_append PySem.F.type_list_append mt_append (pv 4) (pa_cons (pe_op op_add_str (pv 6) (pe_ix ix_str (pv 2) (pe_op op_mod (pe_op op_add (pv 3) (pe_op op_mul pe_int (pv 5))) pe_int) (fun _ _ => rfl))) pa_nil)))))))
      (pss_one (ps_ret (e_tuple (K := K) B.tyTup (pv 4))))))), ?_⟩
    refine ⟨_, rfl, wl, 26, n, rfl, hw, by omega, by decide, by decide, fun f1 H1 f0 f26 s1 w1 => ?_⟩
    refine ⟨by decide, fun fl hfl => ?_⟩
    have nfl := w1.ne hfl
    have hfl0 : H fl = none := by
      cases e : H fl with
      | none => rfl
      | some u =>
        have q := s1 fl u nfl e
        rw [hfl] at q
        cases q
    refine ⟨_, rfl, size, rfl, by omega, by omega, for_range (lo := 0) (n := size.toNat) (fun i σ H2 => (∃ x5 x6 x7, σ = [some (.ref wl), some (.int size), some (.str alph), some (.int f1), some (.ref fl), x5, x6, x7]) ∧ Sw wl H H2 ∧ Well H2 wl (n + 1 + 8 * i) ∧ ∃ os : List Str, H2 fl = some (.lst (os.map V.str)) ∧ os.length = i ∧ PO f1 os)
      ⟨⟨_, _, _, rfl⟩, s1.over hfl0, w1.upd nfl, [], upd_same, rfl, fun j x h => by simp at h⟩ ?_ ?_⟩
    · rintro i σ H2 hi ⟨⟨x5, x6, x7, rfl⟩, s2, w2, os, h2, hl, hpo⟩
      refine ⟨_, rfl, wl, 8, _, rfl, w2, by omega, by decide, by decide, fun m H3 m0 m8 s3 w3 => ?_⟩
      refine ⟨m, rfl, by omega, by omega, for_range (lo := 0) (n := m.toNat) (fun j σ H4 => (∃ x7 wd, σ = [some (.ref wl), some (.int size), some (.str alph), some (.int f1), some (.ref fl), some (.int (0 + (i : Int))), some (.str wd), x7] ∧ wd.length = j ∧ wd.cps.toList.all isLetter = true) ∧ Sw wl H H4 ∧ Well H4 wl (n + 1 + 8 * i + 1 + j) ∧ H4 fl = some (.lst (os.map V.str)))
        ⟨⟨_, _, rfl, rfl, rfl⟩, s2.trans s3, w3, s3 _ _ nfl h2⟩ ?_ ?_⟩
      · rintro j σ H4 hj ⟨⟨y7, wd, rfl, lwd, awd⟩, s4, w4, h4⟩
        refine ⟨_, rfl, _, rfl, _, rfl, wl, 26, _, rfl, w4, by omega, by decide, by decide, fun d H5 d0 d1 s5 w5 => ?_⟩
        refine ⟨alph, d, 97 + d.toNat, rfl, rfl, Nat.le_of_ble_eq_true rfl, alph_draw d0 d1, wd, ⟨#[97 + d.toNat]⟩, rfl, rfl, ?_, ?_⟩
        · show wd.length + 1 ≤ sizeLine
          rw [sizeLine_eq]
          omega
        · exact ⟨⟨_, _, rfl, by rw [len_app, lwd], all_app awd (letter_draw (by omega))⟩, s4.trans s5, w5, s5 _ _ nfl h4⟩
      · rintro σ H4 ⟨⟨y7, wd, rfl, lwd, awd⟩, s4, w4, h4⟩
        refine ⟨_, rfl, .inl ⟨rfl, _, SqL.of h4⟩, ?_⟩
        refine ⟨_, rfl, _, rfl, _, rfl, _, rfl, 3, 0 + (i : Int), rfl, rfl, .inl ⟨by decide, by decide⟩, f1, _, rfl, rfl, _, 26, rfl, rfl, (by show (0 : Int) < 26; decide), ?_⟩
        have g0 : 0 ≤ (f1 + 3 * (0 + (i : Int))) % 26 := Int.emod_nonneg _ (by decide)
        have g1 : (f1 + 3 * (0 + (i : Int))) % 26 < 26 := Int.emod_lt_of_pos _ (by decide)
        refine ⟨alph, _, _, rfl, rfl, Nat.le_of_ble_eq_true rfl, alph_draw g0 g1, wd, _, rfl, rfl, ?_, ?_⟩
        · show wd.length + 1 ≤ sizeLine
          rw [sizeLine_eq]
          omega
        · refine ⟨fl, _, _, rfl, rfl, h4, ?_, ?_⟩
          · rw [List.length_map]
            exact small1000 (by omega)
          · refine ⟨⟨_, _, _, rfl⟩, s4.over hfl0, (w4.upd nfl).mono (by omega), os ++ [wd ++ ⟨#[97 + ((f1 + 3 * (0 + (i : Int))) % 26).toNat]⟩], ?_, ?_, ?_⟩
            · rw [List.map_append]
              exact upd_same
            · rw [List.length_append, hl]
              rfl
            · refine hpo.snoc ⟨?_, ?_⟩
              · unfold isNameS
                rw [all_app awd (letter_draw (by omega)), len_app, lwd, Bool.and_true, Bool.and_eq_true]
                exact ⟨decide_eq_true (by omega), decide_eq_true (by omega)⟩
              · rw [cps_app, hl, Int.zero_add]
                show (wd.cps.toList ++ [97 + ((f1 + 3 * (i : Int)) % 26).toNat]).getLast? = _
                exact List.getLast?_concat
    · rintro σ H2 ⟨⟨x5, x6, x7, rfl⟩, s2, w2, os, h2, hl, hpo⟩
      refine ⟨_, rfl, tup_d h2 (Dts.strs os) fun v H3 s3 hv => ?_⟩
      exact k v os H3 (s2.trans (Sw.of s3)) ((w2.same s3).mono (by omega)) hv (hpo.okO (by omega) (by omega)) (by omega)
end
end VF
set_option maxHeartbeats 4000000
/-! ## BK. _law_shuffled -/
namespace VF
open PySem L2
abbrev s33 : Stmt := top 33
/-- a built-in's method, the written part told by its name -/
theorem e_bm {X : Cx} {K : PySem.W.Frag} {T name id : String} {r : V → List V → Hp → VK → Prop} {o e : Expr} {es : List Expr} {to : TE} {t : TA} {apos cpos : Pos} (pa : PySem.PlainAttrs T) (slot : PySem.Slot T name id) (hty : PySem.typeOf (.builtin id) = pure (.type "method_descriptor")) (hm : MtR X id r) (ho : PE X o to) (ha : PA X (e :: es) t) (hK : X.K = K := by rfl)
    (hbase : attributeBase o name X.env (eval o X.env) = eval o X.env := by rfl)
    (hfew : ((backTo cpos (starEach (e :: es) X.env)).all (fun x => !x.1) && (backToKw cpos (keywordEach [] X.env)).all (fun x => x.1.isSome)
      && decide ((e :: es).length + ([] : List Keyword).length + (if ([] : List Keyword).isEmpty then 0 else 1) < 30)) = true := by rfl)
    (hline : (apos.endLine == cpos.line) = true := by rfl) (hs : starEach (e :: es) X.env = (false, eval e X.env) :: starEach es X.env := by rfl) (hplain : (backTo cpos (starEach es X.env)).any (·.1) = false := by rfl) :
    PE X (.Call (.Attribute o name apos) (e :: es) [] cpos) (tBM K T r to t) := by
  subst hK
  exact pe_bm pa slot hty hm ho ha hbase hfew hline hs hplain
theorem erase_perm {α : Type} : ∀ (l : List α) (i : Nat) (h : i < l.length), (l[i] :: l.eraseIdx i).Perm l
  | [], _, h => absurd h (Nat.not_lt_zero _)
  | _ :: _, 0, _ => List.Perm.refl _
  | x :: l, i + 1, h => by
    have hi : i < l.length := Nat.lt_of_succ_lt_succ h
    have ih := erase_perm l i hi
    rw [List.eraseIdx_cons_succ]
    exact (List.Perm.swap x l[i] (l.eraseIdx i)).trans (List.Perm.cons x ih)
def spShuf (K : PySem.W.Frag) : Sp := fun vs H Q _ => ∃ (wl a : Addr) (n : Nat) (xs : List V), vs = [.ref wl, .ref a] ∧ Well H wl n ∧ SqT K H a xs ∧ xs.length ≤ 100 ∧ n ≤ 999000 ∧
  ∀ D ys H', Sw wl H H' → Well H' wl (n + xs.length) → ys.Perm xs → H' D = some (.lst ys) → H D = none → Q (.ref D) H'
section
variable {P : Program} {w : World} {K : PySem.W.Frag} {mg : Str → Option Value} {base : Heap}
theorem sc33 : FnScope ["_law_well_here", "_law_some", "_law_left", "_law_k"] ["_law_well_here", "_law_some"] (defScope s33) := ⟨rfl, rfl, rfl, by decide +kernel, rfl, by decide +kernel, by decide +kernel⟩
theorem Sw.fresh {a p : Addr} {n : Nat} {H H' : Hp} (s : Sw a H H') (w : Well H a n) (w' : Well H' a n) (h : H' p = none) : H p = none := by
  cases e : H p with
  | none => rfl
  | some u =>
    have q := s p u (w'.ne h) e
    rw [h] at q
    cases q
theorem Sw.fresh' {a p : Addr} {n : Nat} {H H' : Hp} (s : Sw a H H') (w' : Well H' a n) (h : H' p = none) : H p = none := by
  cases e : H p with
  | none => rfl
  | some u =>
    have q := s p u (w'.ne h) e
    rw [h] at q
    cases q
theorem ok_shuf {f : Addr} {fd : FuncData} (F : Fun K "_law_shuffled" "_law_shuffled" s33 f fd) (B : Bt mg) (U : C8.Cal P w K mg base 1 "_law_draw" spDraw []) : FnOk P w K mg base CX0 2 f fd ["_law_well_here", "_law_some"] (spShuf K) := by
  refine F.ok sc33 (fun vs H Q E h => ?_) (fun cdv A outer s H vs Q E hr h => ?_)
  · obtain ⟨wl, a, n, xs, rfl, _⟩ := h
    rfl
  · obtain ⟨wl, a, n, xs, rfl, hw, ha, hz, hn, k⟩ := h
    refine ⟨_, pss_cons (ps_set (i := 2) sc33.nd rfl (Or.inr rfl) (e_list (K := K) B.tyLst (pv 1)))
      (pss_one (ps_ret (pe_lc (own := [("_law_k", 3)]) rfl sc33.nd (pi_range1 (by rfl) B.rng (pa_cons (e_len (K := K) B.len (pv 2)) pa_nil)) (blkOk_by (N := ["_law_well_here", "_law_some", "_law_left", "_law_k"]) (sc := defScope s33) (by decide +kernel))
        (fun _ _ _ _ _ => pg_name (i := 3) sc33.nd rfl (Or.inl rfl)) (fun _ _ _ _ _ => pts_nil)
        (fun _ _ _ _ _ => e_bm (K := K) PySem.F.plainAttrs_list PySem.F.slot_list_pop PySem.F.type_list_pop mt_popAt (pv 2) (pa_cons (C8.pe_c U hr (by decide) (by rfl) (pa_cons (pv 0) (pa_cons (e_len (K := K) B.len (pv 2)) pa_nil))) pa_nil))))), ?_⟩
    refine ⟨_, rfl, lst_s (.inr ha) fun l H1 s1 hl0 hl => ?_⟩
    have w1 := hw.same s1
    have nl : l ≠ wl := hw.ne hl0
    refine ⟨_, rfl, l, xs, rfl, .inl (SqL.of hl), _, rfl, by omega, by omega, fun D hD => ?_⟩
    have nD : D ≠ wl := w1.ne hD
    have nDl : D ≠ l := fun e => by
      rw [e, hl] at hD
      cases hD
    have hD0 : H D = none := (Sw.of s1 : Sw wl H H1).fresh' w1 hD
    refine lc_range (lo := 0) (n := (xs.length : Int).toNat) (fun i H2 => ∃ acc left, H2 D = some (.lst acc) ∧ H2 l = some (.lst left) ∧ acc.length = i ∧ (acc ++ left).Perm xs ∧ Sw wl H H2 ∧ Well H2 wl (n + i)) ?_ ?_ ?_
    · exact ⟨[], xs, upd_same, by rw [upd_ne (Ne.symm nDl)]; exact hl, rfl, List.Perm.refl _, (Sw.of s1).over hD0, w1.upd nD⟩
    · rintro i H2 hi ⟨acc, left, h2, hleft, la, pm, s2, w2⟩
      have lp := pm.length_eq
      rw [List.length_append] at lp
      refine ⟨rfl, _, rfl, .inl ⟨rfl, _, SqL.of hleft⟩, ?_⟩
      refine ⟨_, rfl, _, rfl, l, left, rfl, .inl (SqL.of hleft), wl, _, n + i, rfl, w2, by omega, by omega, by omega, fun d H3 d0 d1 s3 w3 => ?_⟩
      have hd : d.toNat < left.length := by omega
      have h3l := s3 _ _ nl hleft
      refine ⟨l, left, d, d.toNat, left[d.toNat], rfl, rfl, h3l, by omega, by omega, seqIndex_of d0 d1, List.getElem?_eq_getElem hd, ?_⟩
      have h3D := s3 _ _ nD h2
      refine ⟨acc, by rw [upd_ne nDl]; exact h3D, small1000 (by omega), acc ++ [left[d.toNat]], left.eraseIdx d.toNat, upd_same, by rw [upd_ne (Ne.symm nDl), upd_same], by rw [List.length_append, la]; rfl, ?_, ?_, ?_⟩
      · rw [List.append_assoc]
        exact (List.Perm.append_left acc (erase_perm left _ hd)).trans pm
      · exact ((s2.trans s3).over hl0).over hD0
      · exact ((w3.upd nl).upd nD)
    · rintro H2 ⟨acc, left, h2, hleft, la, pm, s2, w2⟩
      have lp := pm.length_eq
      rw [List.length_append] at lp
      have e : left = [] := List.length_eq_zero_iff.mp (by omega)
      rw [e, List.append_nil] at pm
      exact k D acc H2 s2 (w2.mono (by omega)) pm h2 hD0
end
end VF
set_option maxHeartbeats 4000000
/-! ## BL. _law_tiers_drawn -/
namespace VF
open PySem L2
abbrev s34 : Stmt := top 34
theorem perm_map {α β : Type} {f : α → β} {ys xs : List β} (h : ys.Perm xs) : ∀ os : List α, xs = os.map f → ∃ ns : List α, ys = ns.map f ∧ ns.Perm os := by
  induction h with
  | nil =>
    intro os e
    cases os with
    | nil => exact ⟨[], rfl, List.Perm.refl _⟩
    | cons a r => cases e
  | cons x _ ih =>
    intro os e
    cases os with
    | nil => cases e
    | cons a r =>
      rw [List.map_cons, List.cons.injEq] at e
      obtain ⟨ns, e1, p⟩ := ih r e.2
      exact ⟨a :: ns, by rw [List.map_cons, ← e.1, ← e1], List.Perm.cons a p⟩
  | swap x y l =>
    intro os e
    cases os with
    | nil => cases e
    | cons a r =>
      cases r with
      | nil => simp at e
      | cons b r =>
        rw [List.map_cons, List.map_cons, List.cons.injEq, List.cons.injEq] at e
        exact ⟨b :: a :: r, by rw [List.map_cons, List.map_cons, ← e.1, ← e.2.1, ← e.2.2], List.Perm.swap ..⟩
  | trans _ _ ih1 ih2 =>
    intro os e
    obtain ⟨ns, e1, p1⟩ := ih2 os e
    obtain ⟨ms, e2, p2⟩ := ih1 ns e1
    exact ⟨ms, e2, p2.trans p1⟩
section
variable {K : PySem.W.Frag} {H : Hp}
theorem Dts.set : ∀ {vs : List V} {ds : List PyData} {v : V} {d : PyData} (i : Nat), Dts K H vs ds → Dt K H v d → Dts K H (vs.set i v) (ds.set i d)
  | _, _, _, _, _, .nil, _ => .nil
  | _, _, _, _, 0, .cons h t, x => .cons x t
  | _, _, _, _, i + 1, .cons h t, x => .cons h (Dts.set i t x)
theorem set_flat {α : Type} : ∀ (ts : List (List α)) (t : List α) (x : α), ts.getLast? = some t → (ts.set (ts.length - 1) (t ++ [x])).flatten = ts.flatten ++ [x]
  | [], _, _, h => by cases h
  | [s], t, x, h => by
    cases h
    simp
  | s :: s2 :: r, t, x, h => by
    have ih := set_flat (s2 :: r) t x (by rwa [List.getLast?_cons_cons] at h)
    have e : (s :: s2 :: r).length - 1 = ((s2 :: r).length - 1) + 1 := by simp
    have e2 : (s :: s2 :: r).flatten = s ++ (s2 :: r).flatten := List.flatten_cons
    rw [e, List.set_cons_succ, List.flatten_cons, ih, e2, List.append_assoc]
theorem atI_last {xs : List V} {x : V} (h : xs.getLast? = some x) : atI xs (-1) = some x ∧ ixN xs.length (-1) = some (xs.length - 1) := by
  have hl : 0 < xs.length := by
    cases xs with
    | nil => cases h
    | cons a r => simp
  have e : ixN xs.length (-1) = some (xs.length - 1) := by
    unfold ixN
    rw [if_neg (by decide), if_pos (by omega)]
    congr 1
    omega
  refine ⟨?_, e⟩
  unfold atI
  rw [e]
  rw [List.getLast?_eq_getElem?] at h
  exact h
end
theorem pick5 {d : Int} (h0 : 0 ≤ d) (h1 : d < 5) : ∃ z : Int, atI [V.int 0, V.int 0, V.int 0, V.int 1, V.int 2] d = some (.int z) ∧ 0 ≤ z ∧ z ≤ 2 := by
  have e : d = 0 ∨ d = 1 ∨ d = 2 ∨ d = 3 ∨ d = 4 := by omega
  rcases e with rfl | rfl | rfl | rfl | rfl
  · exact ⟨0, rfl, by decide, by decide⟩
  · exact ⟨0, rfl, by decide, by decide⟩
  · exact ⟨0, rfl, by decide, by decide⟩
  · exact ⟨1, rfl, by decide, by decide⟩
  · exact ⟨2, rfl, by decide, by decide⟩
theorem reals_dN (ts : List (List Str)) : reals (ts.map dN) = ts.map dN := by
  rw [reals_map, List.map_map]
  exact List.map_congr_left fun t _ => real_dN t
def spTD (K : PySem.W.Frag) : Sp := fun vs H Q _ => ∃ (wl a : Addr) (n : Nat) (os : List Str), vs = [.ref wl, .ref a] ∧ Well H wl n ∧ SqT K H a (os.map V.str) ∧ OkO os ∧ n ≤ 990000 ∧
  ∀ v ts H', Sw wl H H' → Well H' wl (n + 50) → Dt K H' v (dT ts) → OkB os (.ord ts) → Q v H'
section
variable {P : Program} {w : World} {K : PySem.W.Frag} {mg : Str → Option Value} {base : Heap}
theorem sc34 : FnScope ["_law_well_here", "_law_some", "_law_found", "_law_word"] ["_law_well_here", "_law_some"] (defScope s34) := ⟨rfl, rfl, rfl, by decide +kernel, rfl, by decide +kernel, by decide +kernel⟩
theorem ok_td {f : Addr} {fd : FuncData} (F : Fun K "_law_tiers_drawn" "_law_tiers_drawn" s34 f fd) (B : Bt mg) (U : C8.Cal P w K mg base 1 "_law_draw" spDraw []) (Us : C8.Cal P w K mg base 2 "_law_shuffled" (spShuf K) []) : FnOk P w K mg base CX0 3 f fd ["_law_well_here", "_law_some"] (spTD K) := by
  refine F.ok sc34 (fun vs H Q E h => ?_) (fun cdv A outer s H vs Q E hr h => ?_)
  · obtain ⟨wl, a, n, os, rfl, _⟩ := h
    rfl
  · obtain ⟨wl, a, n, os, rfl, hw, ha, oo, hn, k⟩ := h
    refine ⟨_, pss_cons (ps_set (i := 2) sc34.nd rfl (Or.inl rfl) (pe_lst pa_nil))
      (pss_cons (ps_for PassesOwn.never rfl (i_list (K := K) (pe_slice (o_sll (K := K)) (C8.pe_c Us hr (by decide) (by rfl) (pa_cons (pv 0) (pa_cons (pv 1) pa_nil))) po_none
            (po_some (pe_op op_sub (e_len (K := K) B.len (pv 1)) (pe_op op_mod (pe_ix ix_list (pe_lst (pa_cons pe_int (pa_cons pe_int (pa_cons pe_int (pa_cons pe_int (pa_cons pe_int pa_nil)))))) (C8.pe_c U hr (by decide) (by rfl) (pa_cons (pv 0) (pa_cons pe_int pa_nil))) (fun _ _ => rfl)) (pe_op op_add (e_len (K := K) B.len (pv 1)) pe_int))))))
          (pg_name (i := 3) sc34.nd rfl (Or.inl rfl))
        (pss_one (ps_if (PW.pt (pw_and (pt_cmpR (o_ne (K := K) hr) (pv 2) (pe_lst pa_nil) (nomark _)) (pw_and1 (pt_cmpR op_eq (C8.pe_c U hr (by decide) (by rfl) (pa_cons (pv 0) (pa_cons pe_int pa_nil))) pe_int (nomark _)))))
          (pss_one (ps_asg (pe_op (o_cat (K := K)) (pe_ix ix_list (pv 2) (pe_un un_neg pe_int) (fun _ _ => rfl)) (pe_tup (pa_cons (pv 3) pa_nil))) (pg_sub (pv 2) (pe_un un_neg pe_int) set_list)))
          (pss_one (ps_expr (pe_bm PySem.F.plainAttrs_list PySem.F.slot_list_append PySem.F.type_list_append mt_append (pv 2) (pa_cons (pe_tup (pa_cons (pv 3) pa_nil)) pa_nil)))))))
      (pss_one (ps_ret (e_tuple (K := K) B.tyTup (pv 2))))), ?_⟩
    have lo : (os.map V.str).length = os.length := List.length_map ..
    have o6 := oo.most
    refine ⟨by decide, fun fl hfl => ?_⟩
    have nfl := hw.ne hfl
    refine ⟨_, rfl, _, rfl, wl, a, n, os.map V.str, rfl, hw.upd nfl, same_t (L2.Same.put hfl) ha, by omega, by omega, fun D ys H1 s1 w1 pm hD hD0 => ?_⟩
    obtain ⟨ns, rfl, pn⟩ := perm_map pm os rfl
    have ln : ns.length = os.length := pn.length_eq
    have hfl0 : H fl = none := hfl
    have s1' : Sw wl H H1 := (Sw.of (L2.Same.put hfl)).trans s1
    have h1fl : H1 fl = some (.lst []) := s1 _ _ nfl upd_same
    have nD : D ≠ wl := (hw.upd nfl).ne hD0
    have nDfl : D ≠ fl := fun e => by
      rw [e, upd_same] at hD0
      cases hD0
    have hD00 : H D = none := by rwa [upd_ne nDfl] at hD0
    have ha1 : SqT K H1 a (os.map V.str) := (s1'.tk hw.soft).t _ _ ha
    refine ⟨_, rfl, a, _, rfl, .inr ha1, by decide, fun l hl => ?_⟩
    have nl : l ≠ wl := w1.ne hl
    refine ⟨_, rfl, wl, 5, _, rfl, w1.upd nl, by omega, by decide, by decide, fun d H2 d0 d1 s2 w2 => ?_⟩
    obtain ⟨z, ez, z0, z2⟩ := pick5 d0 d1
    have s12 : Sw wl H H2 := (s1'.trans (Sw.of (L2.Same.put hl))).trans s2
    have ha2 : SqT K H2 a (os.map V.str) := (s12.tk hw.soft).t _ _ ha
    refine ⟨l, _, d, .int z, rfl, rfl, SqL.of (s2 _ _ nl upd_same), ez, ?_⟩
    refine ⟨_, rfl, a, _, rfl, .inr ha2, _, 1, rfl, rfl, z, _, rfl, rfl, (by show (0 : Int) < ((os.map V.str).length : Int) + 1; omega), _, _, rfl, rfl, _, rfl, ?_⟩
    have hD2 : H2 D = some (.lst (ns.map V.str)) := s2 _ _ nD (by rw [upd_ne (fun e => by rw [e, hl] at hD; cases hD)]; exact hD)
    have ez2 : z % (((os.map V.str).length : Int) + 1) ≤ (os.length : Int) := by
      have := Int.emod_lt_of_pos z (show (0 : Int) < ((os.map V.str).length : Int) + 1 by omega)
      omega
    have ez3 : 0 ≤ z % (((os.map V.str).length : Int) + 1) := Int.emod_nonneg _ (by omega)
    obtain ⟨i, hi⟩ : ∃ i : Nat, ((os.map V.str).length : Int) - z % (((os.map V.str).length : Int) + 1) = (i : Int) := ⟨(((os.map V.str).length : Int) - z % (((os.map V.str).length : Int) + 1)).toNat, by omega⟩
    refine ⟨⟨D, _, rfl, SqL.of hD2, fun cl hcl => ?_⟩⟩
    have ecut : cutV (ns.map V.str) none (some (((os.map V.str).length : Int) - z % (((os.map V.str).length : Int) + 1))) = (ns.take i).map V.str := by
      rw [hi, cutV_take, List.map_take]
    have ncl : cl ≠ wl := w2.ne hcl
    have hcl0 : H cl = none := s12.fresh' w2 hcl
    have h2fl : H2 fl = some (.lst []) := s2 _ _ nfl (by rw [upd_ne (fun e => by rw [e, hl] at h1fl; cases h1fl)]; exact h1fl)
    have nclf : cl ≠ fl := fun e => by
      rw [e, h2fl] at hcl
      cases hcl
    obtain ⟨cs, hcs⟩ : ∃ cs, cs = ns.take i := ⟨_, rfl⟩
    have lcs : cs.length ≤ 6 := by
      rw [hcs, List.length_take]
      omega
    have csub : ∀ x ∈ cs, x ∈ os := fun x hx => pn.subset (List.mem_of_mem_take (by rw [← hcs]; exact hx))
    have cnd : cs.Nodup := by
      rw [hcs]
      exact ((pn.nodup_iff).mpr ((unlike_iff os).mp oo.unl)).sublist (List.take_sublist ..)
    have hcl2 : upd H2 cl (.lst (cutV (ns.map V.str) none (some (((os.map V.str).length : Int) - z % (((os.map V.str).length : Int) + 1))))) cl = some (.lst (cs.map V.str)) := by
      rw [upd_same, ecut, hcs]
    have okd : ∀ ts : List (List Str), (∀ x ∈ ts.flatten, x ∈ os) → fit (.list (ts.map dN)) = true := fun ts h => (gd_lst (n := 1) fun d hd => by
      obtain ⟨t, ht, rfl⟩ := List.mem_map.mp hd
      exact gd_dN fun x hx => oo.sok x (h x (List.mem_flatten.mpr ⟨t, ht, hx⟩))).fit (by decide)
    refine ⟨cl, rfl, ⟨_, SqL.of hcl2⟩, for_list (xs := cs.map V.str) (fun j σ H3 => (∃ x3, σ = [some (.ref wl), some (.ref a), some (.ref fl), x3]) ∧ Sw wl H H3 ∧ Well H3 wl (n + 7 + j) ∧ H3 cl = some (.lst (cs.map V.str)) ∧ ∃ ts ys, H3 fl = some (.lst ys) ∧ Dts K H3 ys (ts.map dN) ∧ ts.flatten = cs.take j ∧ (∀ t ∈ ts, t ≠ []) ∧ ts.length ≤ j)
      ⟨⟨_, rfl⟩, s12.over hcl0, (w2.upd ncl).mono (by omega), hcl2, [], [], by rw [upd_ne (Ne.symm nclf)]; exact h2fl, .nil, rfl, (fun t h => nomatch h), Nat.le_refl _⟩ (fun j σ H3 _ h => SqL.of h.2.2.2.1) ?_ ?_⟩
    · rintro j x σ H3 hx ⟨⟨x3, rfl⟩, s3, w3, h3, ts, ys, hfl3, hd3, efl, hne, hlt⟩
      rw [List.getElem?_map] at hx
      cases hc : cs[j]? with
      | none => rw [hc] at hx; cases hx
      | some c =>
        rw [hc] at hx
        cases hx
        have jl : j < cs.length := (List.getElem?_eq_some_iff.mp hc).1
        have tk1 : cs.take (j + 1) = cs.take j ++ [c] := by
          rw [List.take_succ_eq_append_getElem jl, (List.getElem?_eq_some_iff.mp hc).2]
        have sub3 : ∀ x ∈ ts.flatten, x ∈ os := fun x hx => csub x (List.mem_of_mem_take (by rw [← efl]; exact hx))
        have lys : ys.length = ts.length := by rw [hd3.length, List.length_map]
        refine ⟨_, rfl, by decide, fun e he => ?_⟩
        have se : Same H3 (upd H3 e (.lst [])) := L2.Same.put he
        have s4 := s3.trans (Sw.of se : Sw wl H3 _)
        have w4 := w3.same se
        have dpx : Dp K (upd H3 e (.lst [])) (.ref fl) (.list (ts.map dN)) := by
          have q := (hd3.same se).dp
          rw [reals_dN] at q
          exact .lst (SqL.of (se _ _ hfl3)) q
        have appd : ∀ (H4 : Hp) (t : Addr), Sw wl H H4 → Well H4 wl (n + 7 + (j + 1)) → H4 cl = some (.lst (cs.map V.str)) → Dts K H4 ys (ts.map dN) → H4 fl = some (.lst ys) → H4 t = some (.tup [.str c]) →
            Sw wl H (upd H4 fl (.lst (ys ++ [.ref t]))) ∧ Well (upd H4 fl (.lst (ys ++ [.ref t]))) wl (n + 7 + (j + 1)) ∧ upd H4 fl (.lst (ys ++ [.ref t])) cl = some (.lst (cs.map V.str)) ∧
              ∃ (ts' : List (List Str)) (ys' : List V), upd H4 fl (.lst (ys ++ [.ref t])) fl = some (.lst ys') ∧ Dts K (upd H4 fl (.lst (ys ++ [.ref t]))) ys' (ts'.map dN) ∧ ts'.flatten = cs.take (j + 1) ∧ (∀ t ∈ ts', t ≠ []) ∧ ts'.length ≤ j + 1 := fun H4 t s5 w5 h5 d5 f5 t5 => by
          have tk : Tk K H4 (upd H4 fl (.lst (ys ++ [.ref t]))) := Tk.upd (by rw [f5]; exact Soft.lst)
          refine ⟨s5.over hfl0, w5.upd nfl, by rw [upd_ne nclf]; exact h5, ts ++ [[c]], ys ++ [.ref t], upd_same, ?_, ?_, ?_, ?_⟩
          · rw [List.map_append]
            exact (d5.mono tk).snoc ((Dt.new t5 (.cons (.str c) .nil)).mono tk)
          · rw [List.flatten_append, efl, tk1]
            rfl
          · intro u hu
            rcases List.mem_append.mp hu with hu | hu
            · exact hne u hu
            · obtain rfl := List.mem_singleton.mp hu
              simp
          · rw [List.length_append]
            exact Nat.succ_le_succ hlt
        refine ne_p dpx (.lst (SqL.of upd_same) .nil) (okd ts sub3) (by decide) (fun z => ?_) fun z => ?_
        · refine ⟨_, rfl, iteF (iteF ?_)⟩
          refine ⟨_, rfl, .inl ⟨rfl, _, SqL.of (se _ _ hfl3)⟩, ?_⟩
          refine ⟨_, rfl, Nat.le_of_ble_eq_true rfl, fun t ht => ?_⟩
          have st : Same (upd H3 e (.lst [])) (upd (upd H3 e (.lst [])) t (.tup [.str c])) := L2.Same.put ht
          refine ⟨fl, ys, _, rfl, rfl, st _ _ (se _ _ hfl3), small1000 (by omega), ?_⟩
          exact ⟨⟨_, rfl⟩, appd _ t (s4.trans (Sw.of st)) ((w4.same st).mono (by omega)) (st _ _ (se _ _ h3)) ((hd3.same se).same st) (st _ _ (se _ _ hfl3)) upd_same⟩
        · refine ⟨_, rfl, iteT ?_⟩
          refine ⟨_, rfl, wl, 4, _, rfl, w4, by omega, by decide, by decide, fun d4 H4 e0 e1 s5 w5 => ?_⟩
          have s6 := s4.trans s5
          have tk4 : Tk K (upd H3 e (.lst [])) H4 := s5.tk w4.soft
          have h4fl := s5 _ _ nfl (se _ _ hfl3)
          have h4cl := s5 _ _ ncl (se _ _ h3)
          have hd4 := (hd3.same se).mono tk4
          refine ⟨rfl, _, rfl, ?_⟩
          by_cases d40 : d4 = 0
          · subst d40
            rw [decide_eq_true rfl]
            refine iteT ?_
            have tne : ts ≠ [] := fun q => z (by rw [q]; rfl)
            obtain ⟨tl, htl⟩ : ∃ t, ts.getLast? = some t := ⟨ts.getLast tne, List.getLast?_eq_some_getLast tne⟩
            have hil : ts[ts.length - 1]? = some tl := by rw [← List.getLast?_eq_getElem?]; exact htl
            obtain ⟨y, hy1, hy2⟩ := hd4.get' (i := ts.length - 1) (d := dN tl) (by rw [List.getElem?_map, hil]; rfl)
            have hyl : ys.getLast? = some y := by rw [List.getLast?_eq_getElem?, lys]; exact hy1
            obtain ⟨ai, xi⟩ := atI_last hyl
            refine ⟨_, rfl, 1, rfl, fl, ys, -1, y, rfl, rfl, SqL.of h4fl, ai, ?_⟩
            refine ⟨_, rfl, Nat.le_of_ble_eq_true rfl, fun t ht => ?_⟩
            have st : Same H4 (upd H4 t (.tup [.str c])) := L2.Same.put ht
            refine cat_d (d := tl.map PyData.str) (e := [.str c]) (hy2.same st) (.new upd_same (.cons (.str c) .nil)) ?_ fun v H5 s7 hv => ?_
            · have q := flat_le ts ts.length
              have mem : tl ∈ ts := List.mem_of_getElem? hil
              have ql : tl.length ≤ ts.flatten.length := by
                obtain ⟨a1, b1, e1⟩ := List.append_of_mem mem
                rw [e1, List.flatten_append, List.flatten_cons, List.length_append, List.length_append]
                omega
              rw [efl, List.length_take] at ql
              rw [List.length_map]
              show tl.length + 1 ≤ 1000
              omega
            · have s8 := st.trans s7
              have hv' : Dt K H5 v (dN (tl ++ [c])) := by
                have e1 : dN (tl ++ [c]) = .tuple (tl.map PyData.str ++ [.str c]) := by rw [dN, List.map_append]; rfl
                rw [e1]
                exact hv
              have h5fl := s8 _ _ h4fl
              refine ⟨_, rfl, 1, rfl, fl, ys, -1, _, rfl, rfl, h5fl, xi, ?_⟩
              have tk5 : Tk K H5 (upd H5 fl (.lst (ys.set (ys.length - 1) v))) := Tk.upd (by rw [h5fl]; exact Soft.lst)
              refine ⟨⟨_, rfl⟩, (s6.trans (Sw.of s8)).over hfl0, (((w5.same s8).upd nfl).mono (by omega)), by rw [upd_ne nclf]; exact s8 _ _ h4cl, ts.set (ts.length - 1) (tl ++ [c]), ys.set (ys.length - 1) v, upd_same, ?_, ?_, ?_, ?_⟩
              · rw [List.map_set]
                have q := Dts.set (ts.length - 1) ((hd4.same s8).mono tk5) (hv'.mono tk5)
                rw [← lys] at q ⊢
                exact q
              · rw [set_flat ts tl c htl, efl, tk1]
              · intro u hu
                rcases List.mem_or_eq_of_mem_set hu with hu | rfl
                · exact hne u hu
                · simp
              · rw [List.length_set]
                omega
          · rw [decide_eq_false (fun q => d40 (by cases q; rfl))]
            refine iteF ?_
            refine ⟨_, rfl, .inl ⟨rfl, _, SqL.of h4fl⟩, ?_⟩
            refine ⟨_, rfl, Nat.le_of_ble_eq_true rfl, fun t ht => ?_⟩
            have st : Same H4 (upd H4 t (.tup [.str c])) := L2.Same.put ht
            refine ⟨fl, ys, _, rfl, rfl, st _ _ h4fl, small1000 (by omega), ?_⟩
            exact ⟨⟨_, rfl⟩, appd _ t (s6.trans (Sw.of st)) ((w5.same st).mono (by omega)) (st _ _ h4cl) (hd4.same st) (st _ _ h4fl) upd_same⟩
    · rintro σ H3 ⟨⟨x3, rfl⟩, s3, w3, h3, ts, ys, hfl3, hd3, efl, hne, hlt⟩
      rw [List.length_map] at hlt efl w3
      rw [List.take_length] at efl
      refine ⟨_, rfl, tup_d hfl3 hd3 fun v H4 s4 hv => ?_⟩
      refine k v ts H4 (s3.trans (Sw.of s4)) ((w3.same s4).mono (by omega)) hv (.ord ?_ hne (by omega))
      rw [efl]
      exact okN_of csub cnd (by omega)
end
end VF
set_option maxHeartbeats 4000000
/-! ## BM. _law_ballot, _law_rows -/
namespace VF
open PySem L2
abbrev s35 : Stmt := top 35
abbrev s36 : Stmt := top 36
def spLB (K : PySem.W.Frag) : Sp := fun vs H Q _ => ∃ (wl a : Addr) (n : Nat) (os : List Str), vs = [.ref wl, .ref a] ∧ Well H wl n ∧ SqT K H a (os.map V.str) ∧ OkO os ∧ n ≤ 980000 ∧
  ∀ v b H', Sw wl H H' → Well H' wl (n + 100) → Dt K H' v (dB b) → OkB os b → Q v H'
def spLR (K : PySem.W.Frag) : Sp := fun vs H Q _ => ∃ (wl a : Addr) (size : Int) (n : Nat) (os : List Str), vs = [.ref wl, .ref a, .int size] ∧ Well H wl n ∧ SqT K H a (os.map V.str) ∧ OkO os ∧ n ≤ 970000 ∧ 0 ≤ size ∧ size ≤ 20 ∧
  ∀ v rs H', Sw wl H H' → Well H' wl (n + 3000) → Dt K H' v (dV rs) → (∀ r ∈ rs, OkR os r) → (rs.length : Int) ≤ size → Q v H'
section
variable {P : Program} {w : World} {K : PySem.W.Frag} {mg : Str → Option Value} {base : Heap}
theorem sc35 : FnScope ["_law_well_here", "_law_options_here", "_law_way", "_law_some", "_law_word"] ["_law_well_here", "_law_options_here"] (defScope s35) := ⟨rfl, rfl, rfl, by decide +kernel, rfl, by decide +kernel, by decide +kernel⟩
theorem ok_lballot {f : Addr} {fd : FuncData} (F : Fun K "_law_ballot" "_law_ballot" s35 f fd) (B : Bt mg) (U : C8.Cal P w K mg base 1 "_law_draw" spDraw []) (Us : C8.Cal P w K mg base 2 "_law_shuffled" (spShuf K) []) (Ut : C8.Cal P w K mg base 3 "_law_tiers_drawn" (spTD K) []) : FnOk P w K mg base CX0 4 f fd ["_law_well_here", "_law_options_here"] (spLB K) := by
  refine F.ok sc35 (fun vs H Q E h => ?_) (fun cdv A outer s H vs Q E hr h => ?_)
  · obtain ⟨wl, a, n, os, rfl, _⟩ := h
    rfl
  · obtain ⟨wl, a, n, os, rfl, hw, ha, oo, hn, k⟩ := h
    refine ⟨_, pss_cons (ps_set (i := 2) sc35.nd rfl (Or.inl rfl) (C8.pe_c U hr (by decide) (by rfl) (pa_cons (pv 0) (pa_cons pe_int pa_nil))))
      (pss_cons (ps_set (i := 3) sc35.nd rfl (Or.inl rfl) (pe_slice (o_sll (K := K)) (C8.pe_c Us hr (by decide) (by rfl) (pa_cons (pv 0) (pa_cons (pv 1) pa_nil))) po_none
            (po_some (C8.pe_c U hr (by decide) (by rfl) (pa_cons (pv 0) (pa_cons (pe_op op_add (e_len (K := K) B.len (pv 1)) pe_int) pa_nil))))))
      (pss_cons (ps_if (pt_cmpR op_eq (pv 2) pe_int (nomark _)) (pss_one (ps_ret (pe_tup (pa_cons pe_str (pa_cons (e_tuple (K := K) B.tyTup (pv 3)) pa_nil))))) pss_nil)
      (pss_cons (ps_if (pt_cmpR op_eq (pv 2) pe_int (nomark _)) (pss_one (ps_ret (pe_tup (pa_cons pe_str (pa_cons (e_tuple (K := K) B.tyTup
            (pe_lc (own := [("_law_word", 4)]) rfl sc35.nd (i_list (K := K) (pv 3)) (blkOk_by (N := ["_law_well_here", "_law_options_here", "_law_way", "_law_some", "_law_word"]) (sc := defScope s35) (by decide +kernel)) (fun _ _ _ _ _ => pg_name (i := 4) sc35.nd rfl (Or.inl rfl)) (fun _ _ _ _ _ => pts_nil)
              (fun _ _ _ _ _ => pe_tup (pa_cons (pv 4) (pa_cons (C8.pe_c U hr (by decide) (by rfl) (pa_cons (pv 0) (pa_cons pe_int pa_nil))) pa_nil))))) pa_nil))))) pss_nil)
      (pss_one (ps_ret (pe_tup (pa_cons pe_str (pa_cons (C8.pe_c Ut hr (by decide) (by rfl) (pa_cons (pv 0) (pa_cons (pv 1) pa_nil))) pa_nil)))))))), ?_⟩
    have lo : (os.map V.str).length = os.length := List.length_map ..
    have o6 := oo.most
    refine ⟨_, rfl, wl, 6, n, rfl, hw, by omega, by decide, by decide, fun way H1 y0 y6 s1 w1 => ?_⟩
    have ha1 := (s1.tk hw.soft).t _ _ ha
    refine ⟨_, rfl, _, rfl, wl, a, _, os.map V.str, rfl, w1, ha1, by omega, by omega, fun D ys H2 s2 w2 pm hD hD0 => ?_⟩
    obtain ⟨ns, rfl, pn⟩ := perm_map pm os rfl
    have ln : ns.length = os.length := pn.length_eq
    have ha2 := (s2.tk w1.soft).t _ _ ha1
    refine ⟨_, rfl, _, rfl, a, _, rfl, .inr ha2, _, 1, rfl, rfl, wl, _, _, rfl, w2, by omega, by omega, by omega, fun up H3 u0 u1 s3 w3 => ?_⟩
    have nD : D ≠ wl := w1.ne hD0
    have hD3 := s3 _ _ nD hD
    refine ⟨up, rfl, ⟨⟨D, _, rfl, SqL.of hD3, fun cl hcl => ?_⟩⟩⟩
    obtain ⟨i, rfl⟩ : ∃ i : Nat, up = (i : Int) := ⟨up.toNat, by omega⟩
    have ecut : cutV (ns.map V.str) none (some ((i : Nat) : Int)) = (ns.take i).map V.str := by rw [cutV_take, List.map_take]
    have ncl : cl ≠ wl := w3.ne hcl
    have s13 := (s1.trans s2).trans s3
    have hcl0 : H cl = none := s13.fresh' w3 hcl
    obtain ⟨cs, hcs⟩ : ∃ cs, cs = ns.take i := ⟨_, rfl⟩
    have lcs : cs.length ≤ 6 := by
      rw [hcs, List.length_take]
      omega
    have csub : ∀ x ∈ cs, x ∈ os := fun x hx => pn.subset (List.mem_of_mem_take (by rw [← hcs]; exact hx))
    have cnd : cs.Nodup := by
      rw [hcs]
      exact ((pn.nodup_iff).mpr ((unlike_iff os).mp oo.unl)).sublist (List.take_sublist ..)
    obtain ⟨H4, e4⟩ : ∃ H4, H4 = upd H3 cl (.lst (cutV (ns.map V.str) none (some ((i : Nat) : Int)))) := ⟨_, rfl⟩
    rw [← e4]
    have hcl4 : H4 cl = some (.lst (cs.map V.str)) := by
      rw [e4, upd_same, ecut, hcs]
    have s34 : Same H3 H4 := by
      rw [e4]
      exact L2.Same.put hcl
    have s14 : Sw wl H H4 := s13.trans (Sw.of s34)
    have w4 := w3.same s34
    have ha4 := (s14.tk hw.soft).t _ _ ha
    refine ⟨_, rfl, rfl, _, rfl, ?_⟩
    by_cases y4 : way = 4
    · subst y4
      rw [decide_eq_true rfl]
      refine iteT ⟨_, rfl, tup_d hcl4 (Dts.strs cs) fun v H5 s5 hv => ⟨Nat.le_of_ble_eq_true rfl, fun t ht => ?_⟩⟩
      have st : Same H5 (upd H5 t (.tup [.str "lets", v])) := L2.Same.put ht
      exact k _ (.lets cs) _ (s14.trans (Sw.of (s5.trans st))) (((w4.same s5).same st).mono (by omega)) (.new upd_same (.cons (.str _) (.cons (hv.same st) .nil))) (.lets (okN_of csub cnd (by omega)))
    · rw [decide_eq_false (fun q => y4 (by cases q; rfl))]
      refine iteF ⟨_, rfl, rfl, _, rfl, ?_⟩
      by_cases y5 : way = 5
      · subst y5
        rw [decide_eq_true rfl]
        refine iteT ⟨_, rfl, cl, rfl, ⟨_, SqL.of hcl4⟩, fun D2 hD2 => ?_⟩
        have nD2 : D2 ≠ wl := w4.ne hD2
        have hD20 : H D2 = none := s14.fresh' w4 hD2
        have nD2c : D2 ≠ cl := fun e => by
          rw [e, hcl4] at hD2
          cases hD2
        refine lc_it (walk_list (K := K) (a := cl) (xs := cs.map V.str)) (fun j H5 => Sw wl H H5 ∧ Well H5 wl (n + 10 + j) ∧ H5 cl = some (.lst (cs.map V.str)) ∧ ∃ (ps : List (Str × Int)) (ys : List V), H5 D2 = some (.lst ys) ∧ Dts K H5 ys (ps.map dP) ∧ ps.map (·.1) = cs.take j ∧ ∀ p ∈ ps, 0 ≤ p.2 ∧ p.2 ≤ 9)
          ⟨s14.over hD20, (w4.upd nD2).mono (by omega), by rw [upd_ne (Ne.symm nD2c)]; exact hcl4, [], [], upd_same, .nil, rfl, fun p h => nomatch h⟩ (fun j H5 _ h => SqL.of h.2.2.1) ?_ ?_
        · rintro j x H5 H6 hj ⟨s5, w5, h5, ps, ys, hd5, dd5, e5, m5⟩ ⟨rfl, hx⟩
          rw [List.getElem?_map] at hx
          cases hc : cs[j]? with
          | none => rw [hc] at hx; cases hx
          | some c =>
            rw [hc] at hx
            cases hx
            have jl : j < cs.length := (List.getElem?_eq_some_iff.mp hc).1
            have tk1 : cs.take (j + 1) = cs.take j ++ [c] := by
              rw [List.take_succ_eq_append_getElem jl, (List.getElem?_eq_some_iff.mp hc).2]
            have lys : ys.length = j := by
              have q1 := dd5.length
              have q2 := congrArg List.length e5
              rw [List.length_map] at q1 q2
              rw [List.length_take] at q2
              omega
            refine ⟨rfl, _, rfl, _, rfl, wl, 10, _, rfl, w5, by omega, by decide, by decide, fun d H7 d0 d1 s7 w7 => ⟨Nat.le_of_ble_eq_true rfl, fun t ht => ?_⟩⟩
            have st : Same H7 (upd H7 t (.tup [.str c, .int d])) := L2.Same.put ht
            have h7 := s7 _ _ nD2 hd5
            have d7 := (dd5.mono (s7.tk w5.soft)).same st
            refine ⟨ys, st _ _ h7, small1000 (by omega), ?_⟩
            have tk : Tk K (upd H7 t (.tup [.str c, .int d])) (upd (upd H7 t (.tup [.str c, .int d])) D2 (.lst (ys ++ [.ref t]))) := Tk.upd (by rw [st _ _ h7]; exact Soft.lst)
            refine ⟨((s5.trans s7).trans (Sw.of st)).over hD20, ((w7.same st).upd nD2).mono (by omega), by rw [upd_ne (Ne.symm nD2c)]; exact st _ _ (s7 _ _ ncl h5), ps ++ [(c, d)], ys ++ [.ref t], upd_same, ?_, ?_, ?_⟩
            · rw [List.map_append]
              exact (d7.mono tk).snoc ((Dt.new upd_same (.cons (.str c) (.cons (.int d) .nil))).mono tk)
            · rw [List.map_append, e5, tk1]
              rfl
            · intro p hp
              rcases List.mem_append.mp hp with hp | hp
              · exact m5 p hp
              · obtain rfl := List.mem_singleton.mp hp
                exact ⟨d0, by show d ≤ 9; omega⟩
        · rintro H5 ⟨s5, w5, h5, ps, ys, hd5, dd5, e5, m5⟩
          rw [List.length_map, List.take_length] at e5
          rw [List.length_map] at w5
          refine tup_p hd5 dd5 fun v H6 s6 hv => ⟨Nat.le_of_ble_eq_true rfl, fun t ht => ?_⟩
          have st : Same H6 (upd H6 t (.tup [.str "marks", v])) := L2.Same.put ht
          refine k _ (.marks ps) _ (s5.trans (Sw.of (s6.trans st))) (((w5.same s6).same st).mono (by omega)) (.new upd_same (.cons (.str _) (.cons (hv.same st) .nil))) (.marks ?_ m5)
          rw [e5]
          exact okN_of csub cnd (by omega)
      · rw [decide_eq_false (fun q => y5 (by cases q; rfl))]
        refine iteF ⟨_, rfl, _, rfl, wl, a, _, os, rfl, w4, ha4, oo, by omega, fun v ts H5 s5 w5 hv ob => ⟨Nat.le_of_ble_eq_true rfl, fun t ht => ?_⟩⟩
        have st : Same H5 (upd H5 t (.tup [.str "order", v])) := L2.Same.put ht
        exact k _ (.ord ts) _ (s14.trans (s5.trans (Sw.of st))) ((w5.same st).mono (by omega)) (.new upd_same (.cons (.str _) (.cons (hv.same st) .nil))) ob
theorem sc36 : FnScope ["_law_well_here", "_law_options_here", "_law_size", "_law_found", "_law_k", "_law_count"] ["_law_well_here", "_law_options_here", "_law_size"] (defScope s36) := ⟨rfl, rfl, rfl, by decide +kernel, rfl, by decide +kernel, by decide +kernel⟩
theorem ok_lrows {f : Addr} {fd : FuncData} (F : Fun K "_law_rows" "_law_rows" s36 f fd) (B : Bt mg) (U : C8.Cal P w K mg base 1 "_law_draw" spDraw []) (Ub : C8.Cal P w K mg base 4 "_law_ballot" (spLB K) []) : FnOk P w K mg base CX0 5 f fd ["_law_well_here", "_law_options_here", "_law_size"] (spLR K) := by
  refine F.ok sc36 (fun vs H Q E h => ?_) (fun cdv A outer s H vs Q E hr h => ?_)
  · obtain ⟨wl, a, size, n, os, rfl, _⟩ := h
    rfl
  · obtain ⟨wl, a, size, n, os, rfl, hw, ha, oo, hn, z0, z20, k⟩ := h
    refine ⟨_, pss_cons (ps_set (i := 3) sc36.nd rfl (Or.inl rfl) (pe_lst pa_nil))
      (pss_cons (ps_for PassesOwn.never rfl (pi_range1 (by rfl) B.rng (pa_cons (C8.pe_c U hr (by decide) (by rfl) (pa_cons (pv 0) (pa_cons (pe_op op_add (pv 2) pe_int) pa_nil))) pa_nil)) (pg_name (i := 4) sc36.nd rfl (Or.inl rfl))
        (pss_cons (ps_set (i := 5) sc36.nd rfl (Or.inl rfl) (pe_ix ix_list (pe_lst (pa_cons (pe_op op_add pe_int (C8.pe_c U hr (by decide) (by rfl) (pa_cons (pv 0) (pa_cons pe_int pa_nil)))) (pa_cons (pe_op op_add pe_int (C8.pe_c U hr (by decide) (by rfl) (pa_cons (pv 0) (pa_cons (pe_op op_pow pe_int pe_int) pa_nil)))) pa_nil)))
            (pe_callTy call_int1 (by rfl) B.tyInt (by decide +kernel) (pa_cons (pe_cmpR op_eq (C8.pe_c U hr (by decide) (by rfl) (pa_cons (pv 0) (pa_cons pe_int pa_nil))) pe_int (nomark _)) pa_nil)) (fun _ _ => rfl)))
        (pss_one (ps_expr (pe_bm PySem.F.plainAttrs_list PySem.F.slot_list_append PySem.F.type_list_append mt_append (pv 3) (pa_cons (pe_tup (pa_cons (C8.pe_c Ub hr (by decide) (by rfl) (pa_cons (pv 0) (pa_cons (pv 1) pa_nil))) (pa_cons (pv 5) pa_nil))) pa_nil))))))
      (pss_one (ps_ret (e_tuple (K := K) B.tyTup (pv 3))))), ?_⟩
    refine ⟨Nat.le_of_ble_eq_true rfl, fun fl hfl => ?_⟩
    have nfl := hw.ne hfl
    have ha0 : SqT K (upd H fl (.lst [])) a (os.map V.str) := same_t (L2.Same.put hfl) ha
    refine ⟨_, rfl, _, rfl, size, 1, rfl, rfl, wl, _, n, rfl, hw.upd nfl, by omega, by omega, by omega, fun m H1 m0 m1 s1 w1 => ?_⟩
    have s1' : Sw wl H H1 := (Sw.of (L2.Same.put hfl)).trans s1
    refine ⟨m, rfl, by omega, by omega, for_range (lo := 0) (n := m.toNat) (fun i σ H2 => (∃ x4 x5, σ = [some (.ref wl), some (.ref a), some (.int size), some (.ref fl), x4, x5]) ∧ Sw wl H H2 ∧ Well H2 wl (n + 1 + 103 * i) ∧ ∃ (rs : List (Bal × Int)) (ys : List V), H2 fl = some (.lst ys) ∧ Dts K H2 ys (rs.map dR) ∧ (∀ r ∈ rs, OkR os r) ∧ rs.length = i)
      ⟨⟨_, _, rfl⟩, s1', w1, [], [], s1 _ _ nfl upd_same, .nil, (fun r h => nomatch h), rfl⟩ ?_ ?_⟩
    · rintro i σ H2 hi ⟨⟨x4, x5, rfl⟩, s2, w2, rs, ys, h2, d2, ok2, l2⟩
      have lys : ys.length = i := by rw [d2.length, List.length_map, l2]
      refine ⟨_, rfl, wl, 4, _, rfl, w2, by omega, by decide, by decide, fun c1 H3 c0 c4 s3 w3 => ?_⟩
      refine ⟨1, c1, rfl, rfl, _, rfl, 10, 6, rfl, rfl, ⟨by decide, by decide, by decide⟩, wl, _, _, rfl, w3, by omega, by decide, by decide, fun c2 H4 e0 e6 s4 w4 => ?_⟩
      have e6' : c2 < 1000000 := e6
      refine ⟨1, c2, rfl, rfl, Nat.le_of_ble_eq_true rfl, fun l hl => ?_⟩
      have nl : l ≠ wl := w4.ne hl
      refine ⟨_, rfl, wl, 8, _, rfl, w4.upd nl, by omega, by decide, by decide, fun c3 H5 g0 g8 s5 w5 => ⟨rfl, .inr ⟨_, rfl, ?_⟩⟩⟩
      refine ⟨l, _, _, _, rfl, rfl, SqL.of (s5 _ _ nl upd_same), ix_b _ _ _, ?_⟩
      obtain ⟨q, hq⟩ : ∃ q : Bool, q = decide (V.int c3 = V.int 7) := ⟨_, rfl⟩
      rw [← hq]
      have s25 : Sw wl H2 H5 := ((s3.trans s4).trans (Sw.of (L2.Same.put hl))).trans s5
      have s05 : Sw wl H H5 := s2.trans s25
      have h5 := s25 _ _ nfl h2
      have d5 := d2.mono (s25.tk w2.soft)
      have ha5 := (s05.tk hw.soft).t _ _ ha
      refine ⟨_, rfl, .inl ⟨rfl, _, SqL.of h5⟩, ?_⟩
      refine ⟨_, rfl, _, rfl, wl, a, _, os, rfl, w5, ha5, oo, by omega, fun v b H6 s6 w6 hv ob => ?_⟩
      refine ⟨_, rfl, Nat.le_of_ble_eq_true rfl, fun t ht => ?_⟩
      have st : Same H6 (upd H6 t (.tup [v, .int (if q = true then 1 + c2 else 1 + c1)])) := L2.Same.put ht
      have h6 := s6 _ _ nfl h5
      refine ⟨fl, ys, _, rfl, rfl, st _ _ h6, small1000 (by omega), ?_⟩
      have tk : Tk K (upd H6 t (.tup [v, .int (if q = true then 1 + c2 else 1 + c1)])) (upd (upd H6 t (.tup [v, .int (if q = true then 1 + c2 else 1 + c1)])) fl (.lst (ys ++ [.ref t]))) := Tk.upd (by rw [st _ _ h6]; exact Soft.lst)
      refine ⟨⟨_, _, rfl⟩, ((s05.trans s6).trans (Sw.of st)).over hfl, ((w6.same st).upd nfl).mono (by omega), rs ++ [(b, if q = true then 1 + c2 else 1 + c1)], ys ++ [.ref t], upd_same, ?_, ?_, ?_⟩
      · rw [List.map_append]
        exact (((d5.mono (s6.tk w5.soft)).same st).mono tk).snoc ((Dt.new upd_same (.cons (hv.same st) (.cons (.int _) .nil))).mono tk)
      · intro r hr
        rcases List.mem_append.mp hr with hr | hr
        · exact ok2 r hr
        · obtain rfl := List.mem_singleton.mp hr
          refine ⟨ob, ?_, ?_⟩
          · show 1 ≤ (if q = true then 1 + c2 else 1 + c1)
            split <;> omega
          · show (if q = true then 1 + c2 else 1 + c1) ≤ 1000000
            split <;> omega
      · rw [List.length_append, l2]
        rfl
    · rintro σ H2 ⟨⟨x4, x5, rfl⟩, s2, w2, rs, ys, h2, d2, ok2, l2⟩
      refine ⟨_, rfl, tup_d h2 d2 fun v H3 s3 hv => ?_⟩
      exact k v rs H3 (s2.trans (Sw.of s3)) ((w2.same s3).mono (by omega)) hv ok2 (by omega)
end
end VF
set_option maxHeartbeats 4000000
/-! ## BN. _law_high -/
namespace VF
open PySem L2
abbrev s37 : Stmt := top 37
/-- heights counted down from c -/
def hOrd (c : Int) (ts : List (List Str)) (i : Nat) : Str → Int := (List.range i).foldl (fun f i => putAll f ((ts.getD i []).map fun x => (x, c - (i : Int)))) fun _ => 0
theorem hOrd_succ (c : Int) (ts : List (List Str)) (i : Nat) : hOrd c ts (i + 1) = putAll (hOrd c ts i) ((ts.getD i []).map fun x => (x, c - (i : Int))) := by
  unfold hOrd
  rw [List.range_succ, List.foldl_append]
  rfl
/-- the law's own heights -/
def lawH : Bal → Str → Int
  | .ord ts => hOrd 99 ts ts.length
  | .lets ns => putAll (fun _ => 0) (ns.map fun x => (x, 1))
  | .marks ps => putAll (fun _ => 0) ps
theorem put_dkf {os : List Str} (f : Str → Int) {x : Str} (v : Int) (h : x ∈ os) : putK (dkf os f) (Sum.inr x) (.int v) = dkf os (putAll f [(x, v)]) := by
  have q := merge_dkf f [(x, v)] (os := os) fun k hk => by
    rw [List.map_cons, List.map_nil, List.mem_singleton] at hk
    rw [hk]
    exact h
  exact q
theorem putAll_app (f : Str → Int) (a b : List (Str × Int)) : putAll f (a ++ b) = putAll (putAll f a) b := by
  unfold putAll
  rw [List.foldl_append]
theorem dkf_len (os : List Str) (f : Str → Int) : (dkf os f).length = os.length := by
  unfold dkf
  rw [List.length_map]
/-- the pairs of a list as dict() wants them -/
theorem pairs_to {K : PySem.W.Frag} {H : Hp} : ∀ {ps : List (Str × Int)} {ys : List V}, Dts K H ys (ps.map dP) → ∃ as : List Addr, ys = as.map V.ref ∧ PySem.Paired (fun p kv => SqT K H p [kV kv.1, kv.2]) as (ps.map kvP)
  | [], ys, h => by
    cases h
    exact ⟨[], rfl, .nil⟩
  | p :: ps, ys, h => by
    rw [List.map_cons] at h
    cases h with
    | cons h1 h2 =>
      obtain ⟨as, e, q⟩ := pairs_to h2
      obtain ⟨b, rfl, hb⟩ := pair_inv h1
      exact ⟨b :: as, by rw [e, List.map_cons], .cons hb q⟩
def spLHigh (K : PySem.W.Frag) : Sp := fun vs H Q _ => ∃ o v b os, vs = [o, v] ∧ Dt K H o (dN os) ∧ Dt K H v (dB b) ∧ OkO os ∧ OkB os b ∧ ∀ p H', Same H H' → H p = none → H' p = some (.dK (dkf os (lawH b))) → Q (.ref p) H'
section
variable {P : Program} {w : World} {K : PySem.W.Frag} {mg : Str → Option Value} {base : Heap}
theorem sc37 : FnScope ["_law_options_here", "_law_ballot_here", "_law_found", "_law_word", "_law_at", "_law_tier", "_law_mark"] ["_law_options_here", "_law_ballot_here"] (defScope s37) := ⟨rfl, rfl, rfl, by decide +kernel, rfl, by decide +kernel, by decide +kernel⟩
theorem ok_lhigh {f : Addr} {fd : FuncData} (F : Fun K "_law_high" "_law_high" s37 f fd) (B : Bt mg) : FnOk P w K mg base CX0 1 f fd ["_law_options_here", "_law_ballot_here"] (spLHigh K) := by
  refine F.ok sc37 (fun vs H Q E h => ?_) (fun cdv A outer s H vs Q E hr h => ?_)
  · obtain ⟨o, v, b, os, rfl, _⟩ := h
    rfl
  · obtain ⟨o, v, b, os, rfl, ho, hv, oo, ob, k⟩ := h
    obtain ⟨ao, rfl, hao⟩ := Dt.names_inv ho
    obtain ⟨a, x2, rfl, ha, h2⟩ := ball_inv hv
    have nd := (unlike_iff os).mp oo.unl
    have los : os.length < sizeLine := Nat.lt_of_le_of_lt oo.most (by decide)
    refine ⟨_, pss_cons (ps_set (i := 2) sc37.nd rfl (Or.inl rfl) (pe_callTy (call_dictP rfl) (by rfl) B.tyDct (by decide +kernel) (pa_cons (pe_lc (own := [("_law_word", 3)]) rfl sc37.nd (i_tup (K := K) (pv 0)) (blkOk_by (N := ["_law_options_here", "_law_ballot_here", "_law_found", "_law_word", "_law_at", "_law_tier", "_law_mark"]) (sc := defScope s37) (by decide +kernel))
        (fun _ _ _ _ _ => pg_name (i := 3) sc37.nd rfl (Or.inl rfl)) (fun _ _ _ _ _ => pts_nil) (fun _ _ _ _ _ => pe_tup (pa_cons (pv 3) (pa_cons pe_int pa_nil)))) pa_nil)))
      (pss_cons (ps_if (pt_cmpR op_eq (pe_ix ix_tup (pv 1) pe_int (fun _ _ => rfl)) pe_str (nomark _))
        (pss_one (ps_for PassesOwn.never rfl (pi_enumT (by rfl) B.enm (pa_cons (pe_ix ix_tup (pv 1) pe_int (fun _ _ => rfl)) pa_nil)) (g_tup (K := K) (n := 2) rfl (by exact pgs_cons (pg_name (i := 4) sc37.nd rfl (Or.inl rfl)) (pgs_cons (pg_name (i := 5) sc37.nd rfl (Or.inl rfl)) pgs_nil)))
          (pss_one (ps_for PassesOwn.never rfl (i_tup (K := K) (pv 5)) (pg_name (i := 3) sc37.nd rfl (Or.inl rfl))
            (pss_one (ps_dput (hu_of hr) (pv 2) (pv 3) (pe_op op_sub pe_int (pv 4)) rfl))))))
        (pss_one (ps_if (pt_cmpR op_eq (pe_ix ix_tup (pv 1) pe_int (fun _ _ => rfl)) pe_str (nomark _))
          (pss_one (ps_for PassesOwn.never rfl (i_tup (K := K) (pe_ix ix_tup (pv 1) pe_int (fun _ _ => rfl))) (pg_name (i := 3) sc37.nd rfl (Or.inl rfl))
            (pss_one (ps_dput (hu_of hr) (pv 2) (pv 3) pe_int rfl))))
          (pss_one (ps_for PassesOwn.never rfl (i_tup (K := K) (pe_ix ix_tup (pv 1) pe_int (fun _ _ => rfl))) (pg_tup (by rfl) (by exact pgs_cons (pg_name (i := 3) sc37.nd rfl (Or.inl rfl)) (pgs_cons (pg_name (i := 6) sc37.nd rfl (Or.inl rfl)) pgs_nil)))
            (pss_one (ps_dput (hu_of hr) (pv 2) (pv 3) (pv 6) rfl)))))))
      (pss_one (ps_ret (pv 2)))), ?_⟩
    have wo : Walk (Itt K ao) os.length (fun H => SqT K H ao (os.map V.str)) (YAt (os.map V.str)) := by simpa using walk_tup (K := K) (a := ao) (xs := os.map V.str)
    refine ⟨_, rfl, ao, rfl, ⟨_, hao⟩, fun D hD => lc_m (K := K) os (fun x => dP (x, 0)) wo hD los (fun H1 s1 => same_t s1 hao) ?_ fun H1 ys s1 hy1 hd1 => ?_⟩
    · rintro i c x H1 H2 hc s1 ⟨rfl, hx⟩
      obtain rfl := str_item hc hx
      exact ⟨Same.refl _, fun A hA => ⟨rfl, _, rfl, Nat.le_of_ble_eq_true rfl, fun t ht => hA _ _ (L2.Same.put ht) (.new upd_same (.cons (.str _) (.cons (.int _) .nil)))⟩⟩
    have e1 : (os.map fun x => dP (x, 0)) = (os.map fun x => (x, (0 : Int))).map dP := by
      rw [List.map_map]
      rfl
    rw [e1] at hd1
    obtain ⟨as, rfl, pr⟩ := pairs_to hd1
    refine ⟨D, as, _, rfl, SqL.of hy1, pr, fun p hp => ?_⟩
    have e2 : mergeK [] ((os.map fun x => (x, (0 : Int))).map kvP) = dkf os fun _ => 0 := by
      rw [List.map_map]
      exact mergeNil_dkf 0 nd
    have hp0 : H p = none := s1.free hp
    have s2 : Same H (upd H1 p (.dK (mergeK [] ((os.map fun x => (x, (0 : Int))).map kvP)))) := s1.trans (L2.Same.put hp)
    obtain ⟨H2, eH2⟩ : ∃ H2, H2 = upd H1 p (.dK (mergeK [] ((os.map fun x => (x, (0 : Int))).map kvP))) := ⟨_, rfl⟩
    rw [← eH2] at s2 ⊢
    have hp2 : H2 p = some (.dK (dkf os fun _ => 0)) := by rw [eH2, upd_same, e2]
    have put : ∀ {Hz : Hp} {f : Str → Int} {x : Str} {v : Int}, Hz p = some (.dK (dkf os f)) → x ∈ os → DPut Hz p (.str x) (.int v) (upd Hz p (.dK (putK (dkf os f) (Sum.inr x) (.int v)))) := fun {Hz f x v} hz hx => DPut.k (k := Sum.inr x) hz (by rw [dkf_len]; exact los)
    have ha2 := same_t s2 ha
    refine ⟨_, rfl, a, _, _, .str b.word, rfl, rfl, ha2, rfl, rfl, _, rfl, ?_⟩
    cases ob with
    | @ord ts hN ne hm =>
      refine iteT ?_
      obtain ⟨a2, ys, rfl, ht, hd⟩ := h2.tup_inv
      have hlen := hd.length
      rw [List.length_map] at hlen
      refine ⟨_, rfl, a, _, _, .ref a2, rfl, rfl, ha2, rfl, a2, ys, rfl, same_t s2 ht, for_it walk_enumT (fun i σ Hz => (∃ y3 y4 y5 y6, σ = [some (.ref ao), some (.ref a), some (.ref p), y3, y4, y5, y6]) ∧ Same H Hz ∧ Hz p = some (.dK (dkf os (hOrd 99 ts i)))) ⟨⟨_, _, _, _, rfl⟩, s2, hp2⟩ (fun i σ Hz _ h => same_t h.2.1 ht) ?_ ?_⟩
      · rintro i z σ Hz Hz' hi ⟨⟨y3, y4, y5, y6, rfl⟩, sz, hz⟩ ⟨T, u1, u2, rfl, hT, rfl, f1, f2⟩
        cases f1
        obtain ⟨d, hd3, hd4⟩ := hd.get f2
        rw [hlen] at hi
        rw [List.getElem?_map, List.getElem?_eq_getElem hi] at hd3
        cases hd3
        obtain ⟨c, rfl, hc⟩ := hd4.names_inv
        have sT : Same Hz (upd Hz T (.tup [.int (i : Nat), .ref c])) := L2.Same.put hT
        have e4 : ts.getD i [] = ts[i] := by rw [List.getD_eq_getElem?_getD, List.getElem?_eq_getElem hi]; rfl
        refine ⟨T, _, rfl, SqT.of upd_same, rfl, _, _, rfl, _, _, rfl, rfl, ?_⟩
        have lt2 : (ts[i].map V.str).length = ts[i].length := List.length_map ..
        refine ⟨_, rfl, c, rfl, ⟨_, same_t (sz.trans sT) hc⟩, for_tup (xs := ts[i].map V.str) (fun j σ H5 => (∃ y3 y6, σ = [some (.ref ao), some (.ref a), some (.ref p), y3, some (.int (i : Nat)), some (.ref c), y6]) ∧ Same H H5 ∧ H5 p = some (.dK (dkf os (putAll (hOrd 99 ts i) ((ts[i].take j).map fun x => (x, 99 - (i : Int)))))))
          ⟨⟨_, _, rfl⟩, sz.trans sT, sT _ _ hz⟩ (fun j σ H5 _ h => same_t h.2.1 hc) ?_ ?_⟩
        · rintro j x σ H5 hx ⟨⟨y3, y6, rfl⟩, s5, h5⟩
          rw [List.getElem?_map] at hx
          cases hcc : ts[i][j]? with
          | none => rw [hcc] at hx; cases hx
          | some cc =>
            rw [hcc] at hx
            cases hx
            have jl : j < ts[i].length := (List.getElem?_eq_some_iff.mp hcc).1
            have mem : cc ∈ os := someOf_mem hN.some cc (List.mem_flatten.mpr ⟨ts[i], List.getElem_mem hi, List.mem_of_getElem? hcc⟩)
            refine ⟨_, rfl, 99, (i : Int), rfl, rfl, _, rfl, _, rfl, p, _, rfl, put h5 mem, ⟨_, _, rfl⟩, s5.over hp0, ?_⟩
            rw [upd_same, put_dkf _ _ mem, List.take_succ_eq_append_getElem jl, List.map_append, putAll_app, (List.getElem?_eq_some_iff.mp hcc).2]
            rfl
        · rintro σ H5 ⟨⟨y3, y6, rfl⟩, s5, h5⟩
          rw [lt2, List.take_length] at h5
          refine ⟨⟨_, _, _, _, rfl⟩, s5, ?_⟩
          rw [hOrd_succ, e4]
          exact h5
      · rintro σ Hz ⟨⟨y3, y4, y5, y6, rfl⟩, sz, hz⟩
        rw [hlen] at hz
        exact ⟨_, rfl, k p Hz sz hp0 hz⟩
    | @lets ns hN =>
      obtain ⟨c, rfl, hc⟩ := h2.names_inv
      refine iteF ⟨_, rfl, a, _, _, .str "lets", rfl, rfl, ha2, rfl, rfl, _, rfl, iteT ?_⟩
      have lt2 : (ns.map V.str).length = ns.length := List.length_map ..
      refine ⟨_, rfl, a, _, _, .ref c, rfl, rfl, ha2, rfl, c, rfl, ⟨_, same_t s2 hc⟩, for_tup (xs := ns.map V.str) (fun j σ H5 => (∃ y3 y4 y5 y6, σ = [some (.ref ao), some (.ref a), some (.ref p), y3, y4, y5, y6]) ∧ Same H H5 ∧ H5 p = some (.dK (dkf os (putAll (fun _ => 0) ((ns.take j).map fun x => (x, (1 : Int)))))))
        ⟨⟨_, _, _, _, rfl⟩, s2, hp2⟩ (fun j σ H5 _ h => same_t h.2.1 hc) ?_ ?_⟩
      · rintro j x σ H5 hx ⟨⟨y3, y4, y5, y6, rfl⟩, s5, h5⟩
        rw [List.getElem?_map] at hx
        cases hcc : ns[j]? with
        | none => rw [hcc] at hx; cases hx
        | some cc =>
          rw [hcc] at hx
          cases hx
          have jl : j < ns.length := (List.getElem?_eq_some_iff.mp hcc).1
          have mem : cc ∈ os := someOf_mem hN.some cc (List.mem_of_getElem? hcc)
          refine ⟨_, rfl, _, rfl, p, _, rfl, put h5 mem, ⟨_, _, _, _, rfl⟩, s5.over hp0, ?_⟩
          rw [upd_same, put_dkf _ _ mem, List.take_succ_eq_append_getElem jl, List.map_append, putAll_app, (List.getElem?_eq_some_iff.mp hcc).2]
          rfl
      · rintro σ H5 ⟨⟨y3, y4, y5, y6, rfl⟩, s5, h5⟩
        rw [lt2, List.take_length] at h5
        exact ⟨_, rfl, k p H5 s5 hp0 h5⟩
    | @marks ps hN hm =>
      obtain ⟨c, _, ys, rfl, _, _, hc, hd⟩ := h2.plain_inv
      have hlen := hd.length
      rw [List.length_map] at hlen
      refine iteF ⟨_, rfl, a, _, _, .str "marks", rfl, rfl, ha2, rfl, rfl, _, rfl, iteF ?_⟩
      refine ⟨_, rfl, a, _, _, .ref c, rfl, rfl, ha2, rfl, c, rfl, ⟨_, same_t s2 hc⟩, for_tup (xs := ys) (fun j σ H5 => (∃ y3 y4 y5 y6, σ = [some (.ref ao), some (.ref a), some (.ref p), y3, y4, y5, y6]) ∧ Same H H5 ∧ H5 p = some (.dK (dkf os (putAll (fun _ => 0) (ps.take j)))))
        ⟨⟨_, _, _, _, rfl⟩, s2, hp2⟩ (fun j σ H5 _ h => same_t h.2.1 hc) ?_ ?_⟩
      · rintro j x σ H5 hx ⟨⟨y3, y4, y5, y6, rfl⟩, s5, h5⟩
        obtain ⟨d, hd3, hd4⟩ := hd.get hx
        cases hpp : ps[j]? with
        | none => rw [List.getElem?_map, hpp] at hd3; cases hd3
        | some pp =>
          rw [List.getElem?_map, hpp] at hd3
          cases hd3
          obtain ⟨q, rfl, hq⟩ := pair_inv hd4
          have jl : j < ps.length := (List.getElem?_eq_some_iff.mp hpp).1
          have mem : pp.1 ∈ os := someOf_mem hN.some pp.1 (List.mem_map_of_mem (List.mem_of_getElem? hpp))
          refine ⟨q, _, rfl, same_t s5 hq, rfl, _, _, rfl, _, _, rfl, rfl, ?_⟩
          refine ⟨_, rfl, _, rfl, _, rfl, p, _, rfl, put h5 mem, ⟨_, _, _, _, rfl⟩, s5.over hp0, ?_⟩
          rw [upd_same, put_dkf _ _ mem, List.take_succ_eq_append_getElem jl, putAll_app, (List.getElem?_eq_some_iff.mp hpp).2]
      · rintro σ H5 ⟨⟨y3, y4, y5, y6, rfl⟩, s5, h5⟩
        rw [hlen, List.take_length] at h5
        exact ⟨_, rfl, k p H5 s5 hp0 h5⟩
end
end VF
set_option maxHeartbeats 4000000
/-! ## BO. _law_tiers: the same tiers -/
namespace VF
open PySem L2
abbrev s38 : Stmt := top 38
theorem tiers_iso {os : List Str} {f g : Str → Int} (φ : Int → Int) (hg : ∀ x ∈ os, g x = φ (f x)) (mono : ∀ x ∈ os, ∀ y ∈ os, f x < f y → φ (f x) < φ (f y)) : tiersOf os g = tiersOf os f := by
  have mem : ∀ s, s ∈ stepsUp os f → ∃ x ∈ os, f x = s := fun s hs => by
    rw [mem_steps] at hs
    exact List.mem_map.mp hs
  have e : stepsUp os g = (stepsUp os f).map φ := by
    refine up_unique (up_steps g os) ?_ fun z => ?_
    · rw [List.pairwise_map]
      refine (up_steps f os).imp_of_mem fun {a b} ha hb hab => ?_
      obtain ⟨x, hx, rfl⟩ := mem a ha
      obtain ⟨y, hy, rfl⟩ := mem b hb
      exact mono x hx y hy hab
    · rw [mem_steps, List.mem_map, List.mem_map]
      constructor
      · rintro ⟨x, hx, rfl⟩
        exact ⟨f x, by rw [mem_steps]; exact List.mem_map_of_mem hx, (hg x hx).symm⟩
      · rintro ⟨s, hs, rfl⟩
        obtain ⟨x, hx, rfl⟩ := mem s hs
        exact ⟨x, hx, hg x hx⟩
  unfold tiersOf
  rw [e, ← List.map_reverse, List.map_map]
  refine List.map_congr_left fun s hs => ?_
  obtain ⟨y, hy, rfl⟩ := mem s (List.mem_reverse.mp hs)
  show os.filter (fun x => decide (g x = φ (f y))) = os.filter fun x => decide (f x = f y)
  refine List.filter_congr fun x hx => ?_
  rw [decide_eq_decide, hg x hx]
  constructor
  · intro q
    rcases Int.lt_trichotomy (f x) (f y) with l | l | l
    · have := mono x hx y hy l
      omega
    · exact l
    · have := mono y hy x hx l
      omega
  · intro q
    rw [q]
theorem putAll_const (f : Str → Int) (v : Int) : ∀ (L : List Str) (y : Str), putAll f (L.map fun x => (x, v)) y = if y ∈ L then v else f y := by
  refine snocInd (fun y => by rfl) fun L a ih y => ?_
  rw [List.map_append]
  show putAll f (L.map _ ++ [(a, v)]) y = _
  rw [putAll_snoc]
  show (if y = a then v else putAll f (L.map fun x => (x, v)) y) = _
  rw [ih]
  by_cases h : y = a
  · rw [if_pos h, if_pos (by rw [h]; simp)]
  · rw [if_neg h]
    by_cases h2 : y ∈ L
    · rw [if_pos h2, if_pos (List.mem_append_left _ h2)]
    · rw [if_neg h2, if_neg (by simp [h, h2])]
theorem hOrd_two (c d : Int) (ts : List (List Str)) : ∀ (i : Nat) (x : Str), (hOrd c ts i x = 0 ∧ hOrd d ts i x = 0) ∨ ∃ j : Nat, j < i ∧ hOrd c ts i x = c - (j : Int) ∧ hOrd d ts i x = d - (j : Int)
  | 0, x => .inl ⟨rfl, rfl⟩
  | i + 1, x => by
    rw [hOrd_succ, hOrd_succ, putAll_const, putAll_const]
    by_cases h : x ∈ ts.getD i []
    · rw [if_pos h, if_pos h]
      exact .inr ⟨i, Nat.lt_succ_self i, rfl, rfl⟩
    · rw [if_neg h, if_neg h]
      rcases hOrd_two c d ts i x with q | ⟨j, hj, q⟩
      · exact .inl q
      · exact .inr ⟨j, Nat.lt_succ_of_lt hj, q⟩
theorem nodup_le : ∀ (xs os : List Str), xs.Nodup → (∀ x ∈ xs, x ∈ os) → xs.length ≤ os.length
  | [], _, _, _ => Nat.zero_le _
  | x :: r, os, h, m => by
    rw [List.nodup_cons] at h
    have hx : x ∈ os := m x (List.mem_cons_self ..)
    have q := nodup_le r (os.erase x) h.2 fun y hy => (List.mem_erase_of_ne fun e => h.1 (by rw [← e]; exact hy)).mpr (m y (List.mem_cons_of_mem _ hy))
    rw [List.length_erase_of_mem hx] at q
    have p := List.length_pos_of_mem hx
    rw [List.length_cons]
    omega
theorem len_flat : ∀ (ts : List (List Str)), (∀ t ∈ ts, t ≠ []) → ts.length ≤ ts.flatten.length
  | [], _ => Nat.zero_le _
  | t :: r, h => by
    have q := len_flat r fun u hu => h u (List.mem_cons_of_mem _ hu)
    have p : 0 < t.length := List.length_pos_iff.mpr (h t (List.mem_cons_self ..))
    rw [List.flatten_cons, List.length_append, List.length_cons]
    omega
theorem OkB.len6 {os : List Str} {ts : List (List Str)} (o : OkO os) (h : OkB os (.ord ts)) : ts.length ≤ 6 := by
  cases h with
  | ord hN ne hm =>
    have q1 := len_flat ts ne
    have q2 := nodup_le _ os ((unlike_iff _).mp hN.unl) (someOf_mem hN.some)
    have q3 := o.most
    omega
theorem lawH_tiers {os : List Str} {b : Bal} (o : OkO os) (h : OkB os b) : tiersOf os (lawH b) = tiersOf os (heightOf b) := by
  cases b with
  | ord ts =>
    have l6 := h.len6 o
    have two := fun x => hOrd_two (ts.length : Int) 99 ts ts.length x
    refine tiers_iso (f := hOrd (ts.length : Int) ts ts.length) (g := hOrd 99 ts ts.length) (fun v => if v = 0 then 0 else v + (99 - (ts.length : Int))) (fun x _ => ?_) fun x _ y _ l => ?_
    · rcases two x with ⟨p, q⟩ | ⟨j, hj, p, q⟩
      · rw [q, p]
        rfl
      · rw [q, p, if_neg (by omega)]
        omega
    · show (if hOrd (ts.length : Int) ts ts.length x = 0 then (0 : Int) else _) < if hOrd (ts.length : Int) ts ts.length y = 0 then (0 : Int) else _
      rcases two x with ⟨p, q⟩ | ⟨j, hj, p, q⟩
      · rw [p] at l ⊢
        rcases two y with ⟨p', q'⟩ | ⟨j', hj', p', q'⟩
        · omega
        · rw [p', if_pos rfl, if_neg (by omega)]
          omega
      · rcases two y with ⟨p', q'⟩ | ⟨j', hj', p', q'⟩
        · omega
        · rw [p, p'] at l ⊢
          rw [if_neg (by omega), if_neg (by omega)]
          omega
  | lets h => rfl
  | marks h => rfl
def sc38b : Scope := { kind := .function, names := [(".0", .local), ("_law_step", .cell), ("tuple", .globalImplicit), ("_law_high_here", .free), ("_law_options_here", .free)], isGenerator := false, isCoroutine := false }
section
variable {P : Program} {w : World} {K : PySem.W.Frag} {mg : Str → Option Value} {base : Heap}
theorem sc38 : FnScope ["_law_options_here", "_law_ballot_here", "_law_high_here", "_law_steps", "_law_word", "_law_step"] ["_law_options_here", "_law_ballot_here"] (defScope s38) := ⟨rfl, rfl, rfl, by decide +kernel, rfl, by decide +kernel, by decide +kernel⟩
theorem ok_ltiers {f : Addr} {fd : FuncData} (F : Fun K "_law_tiers" "_law_tiers" s38 f fd) (B : Bt mg) (U : C8.Cal P w K mg base 1 "_law_high" (spLHigh K) []) : FnOk P w K mg base CX0 2 f fd ["_law_options_here", "_law_ballot_here"] (spTiers K) := by
  refine F.ok sc38 (fun vs H Q E h => ?_) (fun cdv A outer s H vs Q E hr h => ?_)
  · obtain ⟨o, v, b, os, rfl, _⟩ := h
    rfl
  · obtain ⟨o, v, b, os, rfl, ho, hv, oo, ob, k⟩ := h
    obtain ⟨ao, rfl, hao⟩ := Dt.names_inv ho
    have los : os.length < sizeLine := Nat.lt_of_le_of_lt oo.most (by decide)
    refine ⟨_, pss_cons (ps_set (i := 2) sc38.nd rfl (Or.inr rfl) (C8.pe_c U hr (by decide) (by rfl) (pa_cons (pv 0) (pa_cons (pv 1) pa_nil))))
      (pss_cons (ps_set (i := 3) sc38.nd rfl (Or.inl rfl) (e_revL (K := K) (e_sortedSet (w := w) B.srt rfl (e_set (K := K) (w := w) B.tySet rfl (pe_lc (own := [("_law_word", 4)]) rfl sc38.nd (i_tup (K := K) (pv 0)) (blkOk_by (N := ["_law_options_here", "_law_ballot_here", "_law_high_here", "_law_steps", "_law_word", "_law_step"]) (sc := defScope s38) (by decide +kernel))
        (fun _ _ _ _ _ => pg_name (i := 4) sc38.nd rfl (Or.inl rfl)) (fun _ _ _ _ _ => pts_nil) (fun _ _ _ _ _ => pe_dget (hu_of hr) (pv 2) (pv 4) (fun _ _ => rfl)))))))
      (pss_one (ps_ret (e_tuple (K := K) B.tyTup (pe_lc (own := [("_law_step", 5)]) rfl sc38.nd (i_list (K := K) (pv 3)) (blkOk_by (N := ["_law_options_here", "_law_ballot_here", "_law_high_here", "_law_steps", "_law_word", "_law_step"]) (sc := defScope s38) (by decide +kernel))
        (fun _ _ _ _ _ => pg_name (i := 5) sc38.nd rfl (Or.inr rfl)) (fun _ _ _ _ _ => pts_nil)
        (fun _ _ _ _ _ => e_tuple (K := K) B.tyTup (pe_lc (own := [("_law_word", 4)]) rfl sc38.nd (i_tup (K := K) (pv 0)) (blkOk_by (N := ["_law_options_here", "_law_ballot_here", "_law_high_here", "_law_steps", "_law_word", "_law_step"]) (sc := relS sc38b (defScope s38)) (by decide +kernel))
          (fun _ _ _ _ _ => pg_name (i := 4) sc38.nd rfl (Or.inl rfl)) (fun _ _ _ _ _ => pts_one (pt_cmpR op_eq (pe_dget (hu_of hr) (pv 2) (pv 4) (fun _ _ => rfl)) (pv 5) (nomark _))) (fun _ _ _ _ _ => pv 4)))))))), ?_⟩
    refine ⟨_, rfl, _, rfl, .ref ao, v, b, os, rfl, ho, hv, oo, ob, fun p H1 sm hp0 hp => ?_⟩
    have get : ∀ {x : Str} {Hz : Hp}, x ∈ os → Same H1 Hz → DGet Hz p (.str x) (some (.int (lawH b x))) := fun {x Hz} hx sz => by
      rw [← valV_dkf (os := os) hx]
      exact DGet.k (k := Sum.inr x) (sz _ _ hp)
    have hw : Walk (Itt K ao) os.length (fun H => SqT K H ao (os.map V.str)) (YAt (os.map V.str)) := by simpa using walk_tup (K := K) (a := ao) (xs := os.map V.str)
    refine ⟨_, rfl, ao, rfl, ⟨_, same_t sm hao⟩, fun D hD => lc_m (K := K) os (fun x => .int (lawH b x)) hw hD los (fun H2 s2 => same_t (sm.trans s2) hao) ?_ fun H2 ys s2 hy2 hd2 => ?_⟩
    · rintro i c x H2 H3 hc s2 ⟨rfl, hx⟩
      obtain rfl := str_item hc hx
      exact ⟨Same.refl _, fun A hA => ⟨rfl, _, rfl, _, rfl, p, _, rfl, get (List.mem_of_getElem? hc) s2, hA _ _ (Same.refl _) (.int _)⟩⟩
    have e1 : (os.map fun x => PyData.int (lawH b x)) = (os.map (lawH b)).map PyData.int := by
      rw [List.map_map]
      rfl
    rw [e1] at hd2
    rw [hd2.to_ints] at hy2
    refine ⟨D, os.map (lawH b), rfl, SqL.of hy2, by rw [List.length_map]; exact Nat.le_trans oo.most (by decide), fun d c hd hc => ⟨d, _, c, rfl, upd_same, ?_, fun ns q up mem len hq => ?_⟩⟩
    · rw [List.length_map] at hc
      have := oo.most
      omega
    have sd : Same H2 (upd H2 d (SetO w d (fun j => decide (j ∈ os.map (lawH b))) c)) := L2.Same.put hd
    obtain rfl : ns = stepsUp os (lawH b) := up_unique up (up_steps _ _) fun z => by
      rw [mem, mem_steps]
      exact decide_eq_true_iff
    have sq : Same (upd H2 d (SetO w d (fun j => decide (j ∈ os.map (lawH b))) c)) (upd (upd H2 d (SetO w d (fun j => decide (j ∈ os.map (lawH b))) c)) q (.lst ((stepsUp os (lawH b)).map V.int))) := L2.Same.put hq
    refine rev_l (SqL.of upd_same) fun q2 H3 s3 hq2 => ?_
    rw [← List.map_reverse] at hq2
    have s13 := s2.trans (sd.trans (sq.trans s3))
    have lenS : (stepsUp os (lawH b)).reverse.length < sizeLine := by
      rw [List.length_reverse, len]
      rw [List.length_map] at hc
      exact Nat.lt_of_le_of_lt hc los
    refine ⟨_, rfl, q2, rfl, ⟨_, SqL.of hq2⟩, fun D2 hD2 => lc_m (K := K) (stepsUp os (lawH b)).reverse (fun s => dN (os.filter fun x => decide (lawH b x = s))) (by have z := walk_list (K := K) (a := q2) (xs := (stepsUp os (lawH b)).reverse.map V.int); rwa [List.length_map] at z) hD2 lenS (fun H4 s4 => s4.seq (SqL.of hq2)) ?_ fun H4 ys s4 hy4 hd4 => tup_d hy4 hd4 fun v' H5 s5 dv => k v' H5 (sm.trans (s13.trans (s4.trans s5))) (by rw [← lawH_tiers oo ob, dT_tiers]; exact dv)⟩
    rintro i st x H4 H5 hst s4 ⟨rfl, hx⟩
    obtain rfl : x = .int st := by
      rw [List.getElem?_map, hst] at hx
      cases hx
      rfl
    have s14 := s13.trans s4
    refine ⟨Same.refl _, fun A hA => ⟨rfl, _, rfl, ao, rfl, ⟨_, same_t (sm.trans s14) hao⟩, fun D3 hD3 => lc_d (K := K) os (fun x => if lawH b x = st then some (PyData.str x) else none) hw hD3 los (fun H6 s6 => same_t ((sm.trans s14).trans s6) hao) ?_ fun H6 ys s6 hy6 hd6 => ?_⟩⟩
    · rintro j c x H6 H7 hc s6 ⟨rfl, hx⟩
      obtain rfl := str_item hc hx
      refine ⟨Same.refl _, fun A N hA hN => ⟨rfl, _, rfl, _, rfl, p, _, rfl, get (List.mem_of_getElem? hc) (s14.trans s6), _, rfl, rfl, _, rfl, ?_⟩⟩
      by_cases e : lawH b c = st
      · exact ifD (by rw [e]) ⟨_, rfl, hA _ _ _ (by rw [if_pos e]) (Same.refl _) (.str c)⟩
      · rw [decide_eq_false (fun z => e (V.int.inj z))]
        exact iteF (hN _ (by rw [if_neg e]) (Same.refl _))
    · rw [filterMap_if] at hd6
      exact tup_d hy6 hd6 fun v' H8 s8 dv => hA _ _ (s6.trans s8) dv
end
end VF
set_option maxHeartbeats 4000000
/-! ## BP. t[::-1], t a tuple -/
namespace VF
open PySem PySem.Spec PyProof.Rows L2
theorem rev_adjust (n : Nat) : Builtin.Slice.sliceAdjust none none (-1) (n : Int) = ((n : Int) - 1, -1) := by
  unfold Builtin.Slice.sliceAdjust
  first | rfl | simp
theorem rev_places (n : Nat) : Builtin.Slice.slicePlaces ((n : Int) - 1) (-1) (-1) = n := by
  unfold Builtin.Slice.slicePlaces
  simp
  omega
theorem rev_pick (xs : Array Value) : ((List.range xs.size).filterMap fun (k : Nat) => xs[(((xs.size : Nat) : Int) - 1 + (k : Int) * (-1)).toNat]?).toArray = xs.toList.reverse.toArray := by
  congr 1
  have e : ∀ n : Nat, n ≤ xs.size → (List.range n).filterMap (fun (k : Nat) => xs[(((xs.size : Nat) : Int) - 1 + (k : Int) * (-1)).toNat]?) = xs.toList.reverse.take n := by
    intro n
    induction n with
    | zero => intro _; rfl
    | succ n ih =>
      intro h
      have hl : n < xs.toList.reverse.length := by simp; omega
      rw [List.range_succ, List.filterMap_append, ih (by omega), List.take_succ_eq_append_getElem hl]
      congr 1
      have e1 : (((xs.size : Nat) : Int) - 1 + (n : Int) * (-1)).toNat = xs.size - 1 - n := by omega
      have e2 : xs[xs.size - 1 - n]? = some (xs.toList.reverse[n]) := by
        rw [List.getElem_reverse, Array.getElem?_eq_getElem (by omega)]
        simp
      simp only [List.filterMap_cons, List.filterMap_nil, e1, e2]
  rw [e xs.size (Nat.le_refl _)]
  exact List.take_of_length_le (by simp)
section
variable {prog : Program} {w : World} {A : Around} {E : Value → Shared → Prop} {s : Shared}
theorem getItem_tuple_rev {t sl : Addr} {items : Array Value} {vl vu vs : Value} {Q : Value → Shared → Prop} (ht : IsTup s.heap t items) (hs : s.heap.IsSliceOf sl vl vu vs) (pl : IsPart vl none) (pu : IsPart vu none) (ps : IsPart vs (some (-1)))
    (h : Q (.ref s.heap.objs.size) { s with heap := s.heap.push { cls := .type "tuple", data := .seq items.toList.reverse.toArray } })
    (hsz : items.size ≤ sizeLine) : wpAny (model prog w) A (getItem (.ref t) (.ref sl)) Q E s := by
  have htake : sizeOk (.seq items.toList.reverse.toArray) := by
    show items.toList.reverse.toArray.size ≤ sizeLine
    rw [List.size_toArray, List.length_reverse, Array.length_toList]
    exact hsz
  obtain ⟨os, hos, hcs, hds⟩ := id hs
  have hTs : s.TypeIs (.ref sl) "slice" := ⟨os, hos, hcs⟩
  unfold getItem
  try with_reducible refine wpAny_holding ?_
  first | refine wpAny_bind (wpAny_pure ?_) | skip
  refine wpAny_bind (wpAny_sequenceKey ht.typeIs (by decide) ?_)
  refine wpAny_bind (wpAny_callSpecial?_slot (name := Str.ofString "__getitem__") ht.typeIs PyProof.Rows.slot_tuple_getitem
    (wpAny_call_entry PyProof.Rows.slot_tuple_getitem ht.typeIs entry_tuple_getitem ?_ (args_tuple_getitem _ _)))
  show wpAny _ _ (Builtin.Tuple.tupleItemsOf (.ref t) >>= _) _ _ s
  refine wpAny_bind (tupleItemsOf_ ht ?_)
  refine wpAny_bind (wpAny_typeOf hTs ?_)
  rw [if_pos (by decide)]
  have app : ∀ {Q : Int × Int × Nat → Shared → Prop}, Q (((items.size : Nat) : Int) - 1, -1, items.size) s → wpAny (model prog w) A.in1 (Builtin.Slice.sliceApplied (.ref sl) (pure ((items.size : Nat) : Int))) Q E s := fun {Q} q => by
    unfold Builtin.Slice.sliceApplied Builtin.Slice.sliceFields
    refine wpAny_bind (wpAny_bind (wpAny_field hos hds (x := vl) rfl (wpAny_bind (wpAny_field hos hds (x := vu) rfl (wpAny_bind (wpAny_field hos hds (x := vs) rfl (wpAny_pure ?_)))))))
    refine wpAny_bind (HT.slicePart_ ps ?_)
    show wpAny _ _ (if ((-1 : Int) == 0) = true then _ else _) _ _ s
    rw [if_neg (by decide)]
    refine wpAny_bind (HT.slicePart_ pl (wpAny_bind (HT.slicePart_ pu (wpAny_bind (wpAny_pure ?_)))))
    show wpAny _ _ (match Builtin.Slice.sliceAdjust none none (-1) ((items.size : Nat) : Int) with | (lo, hi) => pure (lo, (-1 : Int), Builtin.Slice.slicePlaces lo hi (-1))) _ _ s
    rw [rev_adjust]
    show wpAny _ _ (pure (((items.size : Nat) : Int) - 1, (-1 : Int), Builtin.Slice.slicePlaces (((items.size : Nat) : Int) - 1) (-1) (-1))) _ _ s
    rw [rev_places]
    exact wpAny_pure q
  refine wpAny_bind (app ?_)
  have hno : ¬ (((((items.size : Nat) : Int) - 1) == 0 && (-1 : Int) == 1 && items.size == items.size) = true) := by
    intro q
    rw [Bool.and_eq_true, Bool.and_eq_true] at q
    exact absurd q.1.2 (by decide)
  show wpAny _ _ (if ((((items.size : Nat) : Int) - 1) == 0 && (-1 : Int) == 1 && items.size == items.size) = true then _ else _) _ _ s
  rw [if_neg hno, rev_pick]
  first
    | exact wpAny_bind (m := Builtin.Tuple.tupleExact _) (wpAny_newObj_type (wpAny_pure ⟨_, rfl, wpAny_pure h⟩) htake)
    | exact wpAny_bind (m := Builtin.Tuple.tupleExact _) (wpAny_newObj_type (wpAny_bind (wpAny_pure (wpAny_pure ⟨_, rfl, wpAny_pure h⟩))) htake)
    | exact wpAny_bind (wpAny_bind (m := Builtin.Tuple.tupleExact _) (wpAny_newObj_type (wpAny_pure (wpAny_pure ⟨_, rfl, wpAny_pure h⟩)) htake))
    | exact wpAny_bind (wpAny_bind (m := Builtin.Tuple.tupleExact _) (wpAny_newObj_type (wpAny_pure ⟨_, rfl, wpAny_pure h⟩) htake))
end
/-- t[::-1] -/
structure RevTR (K : PySem.W.Frag) (x : V) (H : Hp) (Q : VK) : Prop where
  h : ∃ a xs, x = .ref a ∧ SqT K H a xs ∧ ∀ p, H p = none → Q (.ref p) (upd H p (.tup xs.reverse))
theorem rev_t {K : PySem.W.Frag} {H : Hp} {Q : VK} {v : V} {ds : List PyData} (h : Dt K H v (.tuple ds)) (q : ∀ v' H', Same H H' → Dt K H' v' (.tuple ds.reverse) → Q v' H') : RevTR K v H Q := by
  obtain ⟨a, xs, rfl, ha, hd⟩ := h.tup_inv
  exact ⟨a, xs, rfl, ha, fun p hp => q _ _ (L2.Same.put hp) (.new upd_same (hd.rev.same (L2.Same.put hp)))⟩
def tRevT (K : PySem.W.Frag) (te : TE) : TE := fun σ H Q => te σ H fun x H1 => RevTR K x H1 Q
theorem e_revT {X : Cx} {K : PySem.W.Frag} {e : Expr} {te : TE} {k : Nat} {p1 p2 p3 pos : Pos} (he : PE X e te) (hK : X.K = K := by rfl) : PE X (.Subscript e (.Slice none none (some (.UnaryOp .USub (.Constant (.int 1) k p1) p2)) p3) pos) (tRevT K te) := by
  subst hK
  refine ⟨fun pins s σ H Q I h => ?_⟩
  refine Subscript_ (thn (he.run pins s σ H _ I h) fun v s1 ⟨x, H1, I1, r1, q1⟩ => ?_)
  obtain ⟨a, xs, ex, hx, q⟩ := q1.h
  subst ex
  cases r1
  have hst : L2.PO X (some (.UnaryOp .USub (.Constant (.int 1) k p1) p2)) (tPart (tUn (rU fun i => .int (-i)) (tC (.int 1)))) := po_some (pe_un un_neg pe_int)
  refine wpAny_Slice (thn (po_none.run pins s1 σ H1 (fun o H2 => o = none ∧ H2 = H1) I1 ⟨rfl, rfl⟩) fun vl s2 ⟨l, H2, I2, pl, el, e2⟩ => ?_)
  subst el e2
  refine thn (po_none.run pins s2 σ H2 (fun o H3 => o = none ∧ H3 = H2) I2 ⟨rfl, rfl⟩) fun vu s3 ⟨u, H3, I3, pu, eu, e3⟩ => ?_
  subst eu e3
  refine thn (hst.run pins s3 σ H3 (fun o H4 => o = some (-1) ∧ H4 = H3) I3 ⟨1, rfl, -1, rfl, rfl, rfl⟩) fun vs s4 ⟨o, H4, I4, ps, eo, e4⟩ => ?_
  subst eo e4
  have I5 : Inv X pins σ H4 { s4 with heap := s4.heap.push { cls := .type "slice", data := .fields #[vl, vu, vs] } } := I4.kept (t' := s4.toks) fun b ob q => Heap.get?_push_of_some _ q
  obtain ⟨its, r, ht, hz⟩ := I5.tuple hx
  have hlen := r.length
  show wpAny (model X.prog X.w) X.A (subscriptTail e (.Slice none none (some (.UnaryOp .USub (.Constant (.int 1) k p1) p2)) p3) (.ref a) (.ref s4.heap.objs.size)) (EP X pins σ Q) X.xe { s4 with heap := s4.heap.push { cls := .type "slice", data := .fields #[vl, vu, vs] } }
  refine tail_any (ops := [.ref a, .ref s4.heap.objs.size]) ht.typeIs (PyProof.Rows.slot_tuple_getitem.lookup) ?_ (by with_unfolding_all rfl)
  refine getItem_tuple_rev ht (Heap.IsSliceOf.new _ vl vu vs) pl pu ps ?_ (by rw [List.size_toArray]; omega)
  refine ⟨.ref _, _, I5.laid (t' := s4.toks) (o := .tup xs.reverse) (fun b ob q => Heap.get?_push_of_some _ q) (Nat.le_refl _) ?_, rfl, q _ (I5.hok.fresh (Nat.le_refl _))⟩
  exact ⟨by rw [List.length_reverse]; exact hz, _, r.reverse, IsTup.new _ _⟩
end VF
set_option maxHeartbeats 4000000
/-! ## BQ. branches that meet; the tiers as a ballot -/
namespace VF
open PySem L2
/-- what holds behind a statement, stated once for all its branches -/
def tJoin (t : TS) : TS := fun D σ H => ∃ G : L2.St → Hp → Prop, t { D with nx := G } σ H ∧ ∀ σ' H', G σ' H' → D.nx σ' H'
theorem ps_join {X : Cx} {st : Stmt} {t : TS} (h : PS X st t) : PS X st (tJoin t) := by
  refine ⟨fun pins s σ H D I q => ?_⟩
  obtain ⟨G, q1, q2⟩ := q
  refine thn (h.run pins s σ H _ I q1) fun f s1 z => ?_
  cases f with
  | next =>
    obtain ⟨σ', H', I', q'⟩ := z
    exact ⟨σ', H', I', q2 _ _ q'⟩
  | ret v => exact z
  | brk => exact z
  | cont => exact z
def tJoinE (t : TE) : TE := fun σ H Q => ∃ G : VK, t σ H G ∧ ∀ v H', G v H' → Q v H'
theorem pe_join {X : Cx} {e : Expr} {t : TE} (h : PE X e t) : PE X e (tJoinE t) := by
  refine ⟨fun pins s σ H Q I q => ?_⟩
  obtain ⟨G, q1, q2⟩ := q
  exact thn (h.run pins s σ H _ I q1) fun f s1 ⟨v, H', I', r, q'⟩ => ⟨v, H', I', r, q2 _ _ q'⟩
section
variable {os : List Str} {f : Str → Int}
theorem tiers_ne : ∀ t ∈ tiersOf os f, t ≠ [] := by
  intro t ht e
  unfold tiersOf at ht
  obtain ⟨s, hs, rfl⟩ := List.mem_map.mp ht
  rw [List.mem_reverse, mem_steps] at hs
  obtain ⟨x, hx, rfl⟩ := List.mem_map.mp hs
  have q : x ∈ os.filter fun y => decide (f y = f x) := List.mem_filter.mpr ⟨hx, decide_eq_true rfl⟩
  rw [e] at q
  cases q
theorem tiers_mem : ∀ x, x ∈ (tiersOf os f).flatten ↔ x ∈ os := by
  intro x
  rw [List.mem_flatten]
  constructor
  · rintro ⟨t, ht, hx⟩
    unfold tiersOf at ht
    obtain ⟨s, _, rfl⟩ := List.mem_map.mp ht
    exact (List.mem_filter.mp hx).1
  · intro hx
    refine ⟨os.filter fun y => decide (f y = f x), ?_, List.mem_filter.mpr ⟨hx, decide_eq_true rfl⟩⟩
    unfold tiersOf
    refine List.mem_map.mpr ⟨f x, ?_, rfl⟩
    rw [List.mem_reverse, mem_steps]
    exact List.mem_map_of_mem hx
theorem flat_nodup (h : os.Nodup) : ∀ ss : List Int, ss.Nodup → ((ss.map fun s => os.filter fun x => decide (f x = s)).flatten).Nodup
  | [], _ => List.nodup_nil
  | s :: r, n => by
    rw [List.nodup_cons] at n
    rw [List.map_cons, List.flatten_cons, List.nodup_append]
    refine ⟨h.filter _, flat_nodup h r n.2, fun a ha b hb e => ?_⟩
    subst e
    have q1 : f a = s := of_decide_eq_true (List.mem_filter.mp ha).2
    obtain ⟨t, ht, hb2⟩ := List.mem_flatten.mp hb
    obtain ⟨s2, hs2, rfl⟩ := List.mem_map.mp ht
    have q2 : f a = s2 := of_decide_eq_true (List.mem_filter.mp hb2).2
    exact n.1 (by rw [← q1, q2]; exact hs2)
theorem tiers_nodup (h : os.Nodup) : ((tiersOf os f).flatten).Nodup := by
  unfold tiersOf
  refine flat_nodup h _ ?_
  have := up_steps f os
  exact (List.reverse_perm _).nodup_iff.mpr (this.imp fun {a b} q e => by omega)
theorem ok_ord {os : List Str} (o : OkO os) {ts : List (List Str)} (ne : ∀ t ∈ ts, t ≠ []) (nd : ts.flatten.Nodup) (mem : ∀ x ∈ ts.flatten, x ∈ os) : OkB os (.ord ts) := by
  have q1 := len_flat ts ne
  have q2 := nodup_le _ os nd mem
  have q3 := o.most
  exact .ord (okN_of mem nd (by omega)) ne (by omega)
theorem ok_tiersOf (o : OkO os) : OkB os (.ord (tiersOf os f)) := ok_ord o tiers_ne (tiers_nodup ((unlike_iff os).mp o.unl)) fun x hx => (tiers_mem x).mp hx
theorem perm_revs {α : Type} : ∀ ts : List (List α), ((ts.map List.reverse).flatten).Perm ts.flatten
  | [] => .refl _
  | t :: r => by
    rw [List.map_cons, List.flatten_cons, List.flatten_cons]
    exact (List.reverse_perm t).append (perm_revs r)
theorem perm_flatrev {α : Type} : ∀ ts : List (List α), (ts.reverse.flatten).Perm ts.flatten
  | [] => .refl _
  | t :: r => by
    rw [List.reverse_cons, List.flatten_append, List.flatten_cons, List.flatten_cons, List.flatten_nil, List.append_nil]
    exact List.perm_append_comm.trans ((List.Perm.refl t).append (perm_flatrev r))
theorem ok_revs {ts : List (List Str)} (o : OkO os) (ne : ∀ t ∈ ts, t ≠ []) (nd : ts.flatten.Nodup) (mem : ∀ x ∈ ts.flatten, x ∈ os) : OkB os (.ord (ts.map List.reverse)) := by
  refine ok_ord o (fun t ht e => ?_) ((perm_revs ts).nodup_iff.mpr nd) fun x hx => mem x ((perm_revs ts).subset hx)
  obtain ⟨u, hu, rfl⟩ := List.mem_map.mp ht
  exact ne u hu (List.reverse_eq_nil_iff.mp e)
theorem flat_last {α : Type} (ts : List (List α)) (i : Nat) : ((ts.take i).flatten).Sublist ts.flatten := by
  have e : ts.flatten = (ts.take i).flatten ++ (ts.drop i).flatten := by rw [← List.flatten_append, List.take_append_drop]
  rw [e]
  exact List.sublist_append_left ..
theorem ok_init' {ts : List (List Str)} (i : Nat) (o : OkO os) (ne : ∀ t ∈ ts, t ≠ []) (nd : ts.flatten.Nodup) (mem : ∀ x ∈ ts.flatten, x ∈ os) : OkB os (.ord (ts.take i)) :=
  ok_ord o (fun t ht => ne t (List.mem_of_mem_take ht)) (nd.sublist (flat_last ts i)) fun x hx => mem x ((flat_last ts i).subset hx)
end
end VF
set_option maxHeartbeats 4000000
/-! ## BR. _law_told_anew -/
namespace VF
open PySem L2
abbrev s39 : Stmt := top 39
def spTold (K : PySem.W.Frag) : Sp := fun vs H Q _ => ∃ (wl a : Addr) (v : V) (n : Nat) (os : List Str) (b : Bal), vs = [.ref wl, .ref a, v] ∧ Well H wl n ∧ SqT K H a (os.map V.str) ∧ OkO os ∧ Dt K H v (dB b) ∧ OkB os b ∧ n ≤ 980000 ∧
  ∀ v' b' H', Sw wl H H' → Well H' wl (n + 1) → Dt K H' v' (dB b') → OkB os b' → Q v' H'
theorem cutV_any (xs : List V) (hi : Int) : cutV xs none (some hi) = xs.take (HT.sIx xs.length xs.length (some hi)) := by
  unfold cutV
  rw [HT.sIx_none, List.drop_zero, Nat.sub_zero]
def sc39b : Scope := { kind := .function, names := [(".0", .local), ("_law_word", .local), ("_law_at", .free)], isGenerator := false, isCoroutine := false }
section
variable {P : Program} {w : World} {K : PySem.W.Frag} {mg : Str → Option Value} {base : Heap}
theorem sc39 : FnScope ["_law_well_here", "_law_options_here", "_law_ballot_here", "_law_found", "_law_tier", "_law_some", "_law_pairs", "_law_at", "_law_word"] ["_law_well_here", "_law_options_here", "_law_ballot_here"] (defScope s39) := ⟨rfl, rfl, rfl, by decide +kernel, rfl, by decide +kernel, by decide +kernel⟩
theorem ok_told {f : Addr} {fd : FuncData} (F : Fun K "_law_told_anew" "_law_told_anew" s39 f fd) (B : Bt mg) (U1 : C8.Cal P w K mg base 2 "_law_one" spOne []) (Ut : C8.Cal P w K mg base 2 "_law_tiers" (spTiers K) []) : FnOk P w K mg base CX0 3 f fd ["_law_well_here", "_law_options_here", "_law_ballot_here"] (spTold K) := by
  refine F.ok sc39 (fun vs H Q E h => ?_) (fun cdv A outer s H vs Q E hr h => ?_)
  · obtain ⟨wl, a, v, n, os, b, rfl, _⟩ := h
    rfl
  · obtain ⟨wl, a, v, n, os, b, rfl, hw, ha, oo, hv, ob, hn, k⟩ := h
    refine ⟨_, pss_cons (ps_set (i := 3) sc39.nd rfl (Or.inl rfl) (C8.pe_c Ut hr (by decide) (by rfl) (pa_cons (pv 1) (pa_cons (pv 2) pa_nil))))
      (pss_cons (ps_set (i := 5) sc39.nd rfl (Or.inl rfl) (pe_lst (pa_cons (pv 2) (pa_cons (pe_tup (pa_cons pe_str (pa_cons (pv 3) pa_nil)))
          (pa_cons (pe_tup (pa_cons pe_str (pa_cons (e_tuple (K := K) B.tyTup (pe_lc (own := [("_law_tier", 4)]) rfl sc39.nd (i_tup (K := K) (pv 3)) (blkOk_by (N := ["_law_well_here", "_law_options_here", "_law_ballot_here", "_law_found", "_law_tier", "_law_some", "_law_pairs", "_law_at", "_law_word"]) (sc := defScope s39) (by decide +kernel))
              (fun _ _ _ _ _ => pg_name (i := 4) sc39.nd rfl (Or.inl rfl)) (fun _ _ _ _ _ => pts_nil) (fun _ _ _ _ _ => e_revT (K := K) (pv 4)))) pa_nil)))
          (pa_cons (pe_tup (pa_cons pe_str (pa_cons (pe_slice (o_slt (K := K)) (pv 3) po_none (po_some (pe_un un_neg pe_int))) pa_nil))) pa_nil))))))
      (pss_cons (ps_join (ps_if (pt_cmpR op_eq (e_len (K := K) B.len (pv 3)) pe_int (nomark _))
          (pss_one (ps_expr (pe_bm PySem.F.plainAttrs_list PySem.F.slot_list_append PySem.F.type_list_append mt_append (pv 5) (pa_cons (pe_tup (pa_cons pe_str (pa_cons (pe_ix ix_tup (pv 3) pe_int (fun _ _ => rfl)) pa_nil))) pa_nil)))) pss_nil))
      (pss_cons (ps_if (pt_cmpR op_lt (e_len (K := K) B.len (pv 3)) pe_int (nomark _))
          (pss_cons (ps_set (i := 6) sc39.nd rfl (Or.inl rfl) (pe_lst pa_nil))
          (pss_cons (ps_for PassesOwn.never rfl (pi_enumT (by rfl) B.enm (pa_cons (e_revT (K := K) (pv 3)) pa_nil)) (g_tup (K := K) (n := 2) rfl (by exact pgs_cons (pg_name (i := 7) sc39.nd rfl (Or.inr rfl)) (pgs_cons (pg_name (i := 4) sc39.nd rfl (Or.inl rfl)) pgs_nil)))
            (pss_one (ps_set (i := 6) sc39.nd rfl (Or.inl rfl) (pe_op op_cat (pv 6) (pe_lc (own := [("_law_word", 8)]) rfl sc39.nd (i_tup (K := K) (pv 4)) (blkOk_by (N := ["_law_well_here", "_law_options_here", "_law_ballot_here", "_law_found", "_law_tier", "_law_some", "_law_pairs", "_law_at", "_law_word"]) (sc := defScope s39) (by decide +kernel))
              (fun _ _ _ _ _ => pg_name (i := 8) sc39.nd rfl (Or.inl rfl)) (fun _ _ _ _ _ => pts_nil) (fun _ _ _ _ _ => pe_tup (pa_cons (pv 8) (pa_cons (pv 7) pa_nil))))))))
          (pss_one (ps_expr (pe_bm PySem.F.plainAttrs_list PySem.F.slot_list_append PySem.F.type_list_append mt_append (pv 5) (pa_cons (pe_tup (pa_cons pe_str (pa_cons (e_tuple (K := K) B.tyTup (pv 6)) pa_nil))) pa_nil)))))) pss_nil)
      (pss_one (ps_ret (C8.pe_c U1 hr (by decide) (by rfl) (pa_cons (pv 0) (pa_cons (pv 5) pa_nil)))))))), ?_⟩
    have nd := (unlike_iff os).mp oo.unl
    have o6 := oo.most
    obtain ⟨ts, ets⟩ : ∃ ts, ts = tiersOf os (heightOf b) := ⟨_, rfl⟩
    have tne : ∀ t ∈ ts, t ≠ [] := by rw [ets]; exact tiers_ne
    have tnd : ts.flatten.Nodup := by rw [ets]; exact tiers_nodup nd
    have tmem : ∀ x ∈ ts.flatten, x ∈ os := fun x hx => (tiers_mem x).mp (by rw [← ets]; exact hx)
    have okt : OkB os (.ord ts) := ok_ord oo tne tnd tmem
    have l6 := okt.len6 oo
    refine ⟨_, rfl, _, rfl, .ref a, v, b, os, rfl, Dt.names ha, hv, oo, ob, fun vf H1 s1 hf => ?_⟩
    rw [← ets] at hf
    obtain ⟨af, fs, rfl, haf, hdf⟩ := hf.tup_inv
    have lfs : fs.length = ts.length := by rw [hdf.length, List.length_map]
    -- the list of four
    refine ⟨_, rfl, _, rfl, Nat.le_of_ble_eq_true rfl, fun t1 ht1 => ?_⟩
    have st1 : Same H1 (upd H1 t1 (.tup [.str "order", .ref af])) := L2.Same.put ht1
    obtain ⟨H2, eH2⟩ : ∃ H2, H2 = upd H1 t1 (.tup [.str "order", .ref af]) := ⟨_, rfl⟩
    rw [← eH2] at st1 ⊢
    have hf2 : Dt K H2 (.ref af) (dT ts) := hf.same st1
    have hB1 : Dt K H2 (.ref t1) (dB (.ord ts)) := by
      rw [eH2] at hf2 ⊢
      exact .new upd_same (.cons (.str _) (.cons hf2 .nil))
    refine ⟨_, rfl, af, rfl, ⟨_, same_t st1 haf⟩, fun D hD => ?_⟩
    have hw2 : Walk (Itt K af) ts.length (fun H => SqT K H af fs) (YAt fs) := by rw [← lfs]; exact walk_tup (K := K)
    refine lc_m (K := K) ts (fun t => dN t.reverse) hw2 hD (Nat.lt_of_le_of_lt l6 (by decide)) (fun H3 s3 => same_t (st1.trans s3) haf) ?_ fun H3 ys s3 hy3 hd3 => ?_
    · rintro i c x H3 H4 hc s3 ⟨rfl, hx⟩
      obtain ⟨d, hd4, hd5⟩ := hdf.get hx
      rw [List.getElem?_map, hc] at hd4
      cases hd4
      have hd6 : Dt K _ x (.tuple (c.map PyData.str)) := (hd5.same (st1.trans s3))
      refine ⟨Same.refl _, fun A hA => ⟨rfl, _, rfl, rev_t hd6 fun v' H' s' hv' => hA _ _ s' ?_⟩⟩
      rw [← List.map_reverse] at hv'
      exact hv'
    have e3 : (ts.map fun t => dN t.reverse) = (ts.map List.reverse).map dN := by rw [List.map_map]; rfl
    rw [e3] at hd3
    refine tup_d hy3 hd3 fun vr H4 s4 hvr => ⟨Nat.le_of_ble_eq_true rfl, fun t2 ht2 => ?_⟩
    have st2 : Same H4 (upd H4 t2 (.tup [.str "order", vr])) := L2.Same.put ht2
    obtain ⟨H5, eH5⟩ : ∃ H5, H5 = upd H4 t2 (.tup [.str "order", vr]) := ⟨_, rfl⟩
    rw [← eH5] at st2 ⊢
    have hB2 : Dt K H5 (.ref t2) (dB (.ord (ts.map List.reverse))) := by
      have q := hvr.same st2
      rw [eH5] at q ⊢
      exact .new upd_same (.cons (.str _) (.cons q .nil))
    have s25 := s3.trans (s4.trans st2)
    have s15 := st1.trans s25
    refine ⟨_, rfl, 1, rfl, _, rfl, slt (same_t s15 haf) fun H6 p s6 hp => ⟨Nat.le_of_ble_eq_true rfl, fun t3 ht3 => ?_⟩⟩
    have st3 : Same H6 (upd H6 t3 (.tup [.str "order", .ref p])) := L2.Same.put ht3
    obtain ⟨H7, eH7⟩ : ∃ H7, H7 = upd H6 t3 (.tup [.str "order", .ref p]) := ⟨_, rfl⟩
    rw [← eH7] at st3 ⊢
    obtain ⟨m, em⟩ : ∃ m, cutV fs none (some (-1)) = fs.take m := ⟨_, cutV_any fs (-1)⟩
    have hB3 : Dt K H7 (.ref t3) (dB (.ord (ts.take m))) := by
      have q : Dt K H6 (.ref p) (dT (ts.take m)) := by
        refine .tup hp ?_
        rw [em, List.map_take]
        exact (hdf.same (s15.trans s6)).take m
      have q2 := q.same st3
      rw [eH7] at q2 ⊢
      exact .new upd_same (.cons (.str _) (.cons q2 .nil))
    have s57 := s6.trans st3
    have s17 := s15.trans s57
    refine ⟨Nat.le_of_ble_eq_true rfl, fun fl hfl => ?_⟩
    have sfl : Same H7 (upd H7 fl (.lst [v, .ref t1, .ref t2, .ref t3])) := L2.Same.put hfl
    obtain ⟨H8, eH8⟩ : ∃ H8, H8 = upd H7 fl (.lst [v, .ref t1, .ref t2, .ref t3]) := ⟨_, rfl⟩
    have h8 : H8 fl = some (.lst [v, .ref t1, .ref t2, .ref t3]) := by rw [eH8]; exact upd_same
    rw [← eH8] at sfl ⊢
    have s07 := s1.trans s17
    have s08 := s07.trans sfl
    have hfl0 : H fl = none := s07.free hfl
    have nfl : fl ≠ wl := hw.ne hfl0
    have d8 : Dts K H8 [v, .ref t1, .ref t2, .ref t3] ([b, .ord ts, .ord (ts.map List.reverse), .ord (ts.take m)].map dB) :=
      .cons (hv.same s08) (.cons (hB1.same (s25.trans (s57.trans sfl))) (.cons (hB2.same (s57.trans sfl)) (.cons (hB3.same sfl) .nil)))
    have ok8 : ∀ b' ∈ [b, .ord ts, .ord (ts.map List.reverse), .ord (ts.take m)], OkB os b' := by
      intro b' hb
      simp only [List.mem_cons, List.not_mem_nil, or_false] at hb
      rcases hb with rfl | rfl | rfl | rfl
      · exact ob
      · exact okt
      · exact ok_revs oo tne tnd tmem
      · exact ok_init' m oo tne tnd tmem
    have grow : ∀ {Hx : Hp} {bs : List Bal} {ys : List V} {t : Addr} {x y : V} {b' : Bal} {o : HO}, o = .tup [x, y] → Same H1 Hx → Hx fl = some (.lst ys) → Dts K Hx ys (bs.map dB) → Hx t = none → Dt K (upd Hx t o) (.ref t) (dB b') →
        upd Hx t o fl = some (.lst ys) ∧ Same H1 (upd (upd Hx t o) fl (.lst (ys ++ [.ref t]))) ∧ Dts K (upd (upd Hx t o) fl (.lst (ys ++ [.ref t]))) (ys ++ [.ref t]) ((bs ++ [b']).map dB) := by
      intro Hx bs ys t x y b' o eo sx hx dx ht hb
      have st : Same Hx (upd Hx t o) := L2.Same.put ht
      have tk : Tk K (upd Hx t o) (upd (upd Hx t o) fl (.lst (ys ++ [.ref t]))) := Tk.upd (by rw [st _ _ hx]; exact Soft.lst)
      refine ⟨st _ _ hx, (sx.trans st).over (s17.free hfl), ?_⟩
      rw [List.map_append]
      exact ((dx.same st).mono tk).snoc (hb.mono tk)
    refine ⟨fun σ Hx => ∃ (bs : List Bal) (ys : List V), σ = [some (.ref wl), some (.ref a), some v, some (.ref af), none, some (.ref fl), none, none, none] ∧ Same H1 Hx ∧ Hx fl = some (.lst ys) ∧ Dts K Hx ys (bs.map dB) ∧ (∀ b' ∈ bs, OkB os b') ∧ 1 ≤ bs.length ∧ bs.length ≤ 5, ?_, ?_⟩
    · refine ⟨_, rfl, af, _, rfl, .inr (same_t (s17.trans sfl) haf), rfl, _, rfl, ?_⟩
      by_cases e2 : ts.length = 2
      · rw [decide_eq_true (by rw [lfs, e2]; rfl)]
        refine iteT ⟨_, rfl, .inl ⟨rfl, _, SqL.of h8⟩, ?_⟩
        obtain ⟨x0, hx0⟩ : ∃ x0, fs[0]? = some x0 := ⟨fs[0], List.getElem?_eq_getElem (by omega)⟩
        obtain ⟨d, hd4, hd5⟩ := hdf.get hx0
        obtain ⟨t0, ht0⟩ : ∃ t0, ts[0]? = some t0 := ⟨ts[0], List.getElem?_eq_getElem (by omega)⟩
        rw [List.getElem?_map, ht0] at hd4
        cases hd4
        refine ⟨_, rfl, af, fs, 0, x0, rfl, rfl, same_t (s17.trans sfl) haf, ?_, Nat.le_of_ble_eq_true rfl, fun t ht => ?_⟩
        · show atI fs 0 = _
          unfold atI ixN
          rw [if_pos (by decide), if_pos (by omega)]
          exact hx0
        have st : Same H8 (upd H8 t (.tup [.str "lets", x0])) := L2.Same.put ht
        have mt0 : t0 ∈ ts := List.mem_of_getElem? ht0
        have sub0 : t0.Sublist ts.flatten := List.sublist_flatten_of_mem mt0
        have oklet : OkB os (.lets t0) := .lets (okN_of (fun x hx => tmem x (sub0.subset hx)) (tnd.sublist sub0) (by have := nodup_le _ os (tnd.sublist sub0) (fun x hx => tmem x (sub0.subset hx)); omega))
        obtain ⟨g1, g2, g3⟩ := grow (b' := .lets t0) rfl (s17.trans sfl) h8 d8 ht (.new upd_same (.cons (.str _) (.cons (hd5.same ((s17.trans sfl).trans st)) .nil)))
        refine ⟨fl, _, _, rfl, rfl, g1, small1000 (by simp), _, _, rfl, g2, upd_same, g3, ?_, by simp, by simp⟩
        intro b' hb
        rcases List.mem_append.mp hb with hb | hb
        · exact ok8 b' hb
        · obtain rfl := List.mem_singleton.mp hb
          exact oklet
      · rw [decide_eq_false (fun q => e2 (by rw [lfs] at q; have := V.int.inj q; omega))]
        exact iteF ⟨_, _, rfl, s17.trans sfl, h8, d8, ok8, by simp, by simp⟩
    rintro σ Hx ⟨bs, ys, rfl, sx, hx, dx, okx, b1, b5⟩
    refine ⟨_, rfl, af, _, rfl, .inr (same_t sx haf), _, _, rfl, rfl, _, rfl, ?_⟩
    show if decide ((fs.length : Int) < 11) = true then _ else _
    rw [if_pos (decide_eq_true (show (fs.length : Int) < 11 by omega))]
    refine ⟨Nat.le_of_ble_eq_true rfl, fun pl hpl => ?_⟩
    have spl : Same Hx (upd Hx pl (.lst [])) := L2.Same.put hpl
    have sxb := sx.trans spl
    refine ⟨_, rfl, rev_t (hf.same sxb) fun vr2 H9 s9 hr9 => ?_⟩
    rw [← List.map_reverse] at hr9
    obtain ⟨ar, rs, rfl, har, hdr⟩ := hr9.tup_inv
    have lrs : rs.length = ts.length := by rw [hdr.length, List.length_map, List.length_reverse]
    have s19 := sxb.trans s9
    refine ⟨ar, rs, rfl, har, for_it walk_enumT (fun i σ Hz => (∃ y4 y7 y8 q zs, ∃ ps : List (Str × Int), σ = [some (.ref wl), some (.ref a), some v, some (.ref af), y4, some (.ref fl), some (.ref q), y7, y8] ∧ Hz q = some (.lst zs) ∧ Dts K Hz zs (ps.map dP) ∧ ps.map (·.1) = (ts.reverse.take i).flatten ∧ ∀ p ∈ ps, 0 ≤ p.2 ∧ p.2 ≤ 9) ∧ Same H9 Hz)
      ⟨⟨_, _, _, pl, [], [], rfl, s9 _ _ upd_same, .nil, rfl, fun p h => nomatch h⟩, Same.refl _⟩ (fun i σ Hz _ h => same_t h.2 har) ?_ ?_⟩
    · rintro i z σ Hz Hz' hi ⟨⟨y4, y7, y8, q, zs, ps, rfl, hq, dq, eq, mq⟩, sz⟩ ⟨T, u1, u2, rfl, hT, rfl, f1, f2⟩
      cases f1
      rw [lrs] at hi
      obtain ⟨d, hd3, hd4⟩ := hdr.get f2
      have hir : i < ts.reverse.length := by rw [List.length_reverse]; exact hi
      rw [List.getElem?_map, List.getElem?_eq_getElem hir] at hd3
      cases hd3
      obtain ⟨c, rfl, hc⟩ := hd4.names_inv
      obtain ⟨tt, ett⟩ : ∃ tt, tt = ts.reverse[i] := ⟨_, rfl⟩
      rw [← ett] at hc
      have mtt : tt ∈ ts := List.mem_reverse.mp (by rw [ett]; exact List.getElem_mem hir)
      have sub0 : tt.Sublist ts.flatten := List.sublist_flatten_of_mem mtt
      have ltt : tt.length ≤ 6 := by
        have := nodup_le _ os (tnd.sublist sub0) (fun x hx => tmem x (sub0.subset hx))
        omega
      have sT : Same Hz (upd Hz T (.tup [.int (i : Nat), .ref c])) := L2.Same.put hT
      obtain ⟨Ha, eHa⟩ : ∃ Ha, Ha = upd Hz T (.tup [.int (i : Nat), .ref c]) := ⟨_, rfl⟩
      have haT : Ha T = some (.tup [.int (i : Nat), .ref c]) := by rw [eHa]; exact upd_same
      rw [← eHa] at sT ⊢
      have hca : SqT K Ha c (tt.map V.str) := same_t (sz.trans sT) hc
      refine ⟨T, _, rfl, SqT.of haT, rfl, _, _, rfl, _, _, rfl, rfl, ?_⟩
      have wc : Walk (Itt K c) tt.length (fun H => SqT K H c (tt.map V.str)) (YAt (tt.map V.str)) := by simpa using walk_tup (K := K) (a := c) (xs := tt.map V.str)
      refine ⟨_, rfl, _, rfl, c, rfl, ⟨_, hca⟩, fun D2 hD2 => lc_m (K := K) tt (fun x => dP (x, (i : Int))) wc hD2 (Nat.lt_of_le_of_lt ltt (by decide)) (fun H3 s3 => same_t s3 hca) ?_ fun H3 ys3 s3 hy3 hd3 => ?_⟩
      · rintro j x y H3 H4 hj s3 ⟨rfl, hx⟩
        obtain rfl := str_item hj hx
        exact ⟨Same.refl _, fun A hA => ⟨rfl, _, rfl, _, rfl, Nat.le_of_ble_eq_true rfl, fun t ht => hA _ _ (L2.Same.put ht) (.new upd_same (.cons (.str _) (.cons (.int _) .nil)))⟩⟩
      · have e1 : (tt.map fun x => dP (x, (i : Int))) = (tt.map fun x => (x, (i : Int))).map dP := by
          rw [List.map_map]
          rfl
        rw [e1] at hd3
        have hq3 := s3 _ _ (sT _ _ hq)
        have dq3 := dq.same (sT.trans s3)
        have tk1 : ts.reverse.take (i + 1) = ts.reverse.take i ++ [tt] := by
          rw [List.take_succ_eq_append_getElem hir, ett]
        have e2 : (ps ++ tt.map fun x => (x, (i : Int))).map (·.1) = (ts.reverse.take (i + 1)).flatten := by
          rw [tk1, List.flatten_append, List.map_append, eq, List.map_map]
          show _ ++ tt.map (fun x => x) = _ ++ (tt ++ [])
          rw [List.map_id', List.append_nil]
        have lp : zs.length ≤ 6 := by
          have q1 := dq.length
          have q2 := congrArg List.length eq
          rw [List.length_map] at q1 q2
          have q3 := (flat_last ts.reverse i).length_le
          rw [(perm_flatrev ts).length_eq] at q3
          have q4 := nodup_le _ os tnd tmem
          omega
        have ly : ys3.length ≤ 6 := by
          rw [hd3.length, List.length_map, List.length_map]
          exact ltt
        refine ⟨q, D2, zs, ys3, rfl, rfl, hq3, hy3, Nat.le_trans (show zs.length + ys3.length ≤ 12 by omega) (Nat.le_of_ble_eq_true rfl), fun p hp => ⟨⟨_, _, _, p, zs ++ ys3, ps ++ tt.map fun x => (x, (i : Int)), rfl, upd_same, ?_, e2, ?_⟩, ?_⟩⟩
        · rw [List.map_append]
          exact (dq3.app hd3).same (L2.Same.put hp)
        · intro r hr'
          rcases List.mem_append.mp hr' with hr' | hr'
          · exact mq r hr'
          · obtain ⟨x, _, rfl⟩ := List.mem_map.mp hr'
            exact ⟨by show (0 : Int) ≤ (i : Int); omega, by show (i : Int) ≤ 9; omega⟩
        · exact (sz.trans sT).trans (s3.trans (L2.Same.put hp))
    · rintro σ Hz ⟨⟨y4, y7, y8, q, zs, ps, rfl, hq, dq, eq, mq⟩, sz⟩
      rw [lrs, List.take_of_length_le (by rw [List.length_reverse]; exact Nat.le_refl _)] at eq
      have s1z := s19.trans sz
      have sxz := spl.trans (s9.trans sz)
      have hz := sxz _ _ hx
      refine ⟨_, rfl, .inl ⟨rfl, _, SqL.of hz⟩, _, rfl, tup_p hq dq fun vm Hm sm hm => ⟨Nat.le_of_ble_eq_true rfl, fun t ht => ?_⟩⟩
      have st : Same Hm (upd Hm t (.tup [.str "marks", vm])) := L2.Same.put ht
      have okm : OkB os (.marks ps) := .marks (by
        rw [eq]
        exact okN_of (fun x hx' => tmem x ((perm_flatrev ts).subset hx')) ((perm_flatrev ts).nodup_iff.mpr tnd) (by have := nodup_le _ os ((perm_flatrev ts).nodup_iff.mpr tnd) (fun x hx' => tmem x ((perm_flatrev ts).subset hx')); omega)) mq
      obtain ⟨g1, g2, g3⟩ := grow (b' := .marks ps) rfl (s1z.trans sm) (sm _ _ hz) (dx.same (sxz.trans sm)) ht (.new upd_same (.cons (.str _) (.cons (hm.same st) .nil)))
      have okz : ∀ b' ∈ bs ++ [Bal.marks ps], OkB os b' := by
        intro b' hb
        rcases List.mem_append.mp hb with hb | hb
        · exact okx b' hb
        · obtain rfl := List.mem_singleton.mp hb
          exact okm
      have ly : ys.length = bs.length := by rw [dx.length, List.length_map]
      refine ⟨fl, _, _, rfl, rfl, g1, small1000 (by omega), _, rfl, _, rfl, wl, fl, n, _, rfl, hw.same (s1.trans g2), by omega, nfl, upd_same, by simp, by rw [List.length_append]; simp; omega, fun i x H' hxi sw w' => ?_⟩
      obtain ⟨d, hd3, hd4⟩ := g3.get hxi
      rw [List.getElem?_map] at hd3
      cases hb : (bs ++ [Bal.marks ps])[i]? with
      | none => rw [hb] at hd3; cases hd3
      | some b' =>
        rw [hb] at hd3
        cases hd3
        exact k x b' H' ((Sw.of (s1.trans g2)).trans sw) w' (sw.dt (hw.same (s1.trans g2)) hd4) (okz b' (List.mem_of_getElem? hb))
end
end VF
set_option maxHeartbeats 4000000
/-! ## BS. _law_other -/
namespace VF
open PySem L2
abbrev s40 : Stmt := top 40
def spOther (K : PySem.W.Frag) : Sp := fun vs H Q _ => ∃ (wl a : Addr) (v : V) (n : Nat) (os : List Str) (rs : List (Bal × Int)), vs = [.ref wl, .ref a, v] ∧ Well H wl n ∧ SqT K H a (os.map V.str) ∧ OkO os ∧ Dt K H v (dV rs) ∧ (∀ r ∈ rs, OkR os r) ∧ rs.length ≤ 8 ∧ n ≤ 960000 ∧
  ∀ v' rs' H', Sw wl H H' → Well H' wl (n + 4000) → Dt K H' v' (dV rs') → (∀ r ∈ rs', OkR os r) → rs'.length ≤ 16 → Q v' H'
theorem pick2 {a b d : Int} (h0 : 0 ≤ d) (h1 : d < 2) : atI [V.int a, V.int b] d = some (V.int (if d = 0 then a else b)) := by
  have e : d = 0 ∨ d = 1 := by omega
  rcases e with rfl | rfl <;> rfl
section
variable {P : Program} {w : World} {K : PySem.W.Frag} {mg : Str → Option Value} {base : Heap}
theorem sc40 : FnScope ["_law_well_here", "_law_options_here", "_law_rows_here", "_law_way", "_law_found", "_law_ballot_here", "_law_count", "_law_first", "_law_at"] ["_law_well_here", "_law_options_here", "_law_rows_here"] (defScope s40) := ⟨rfl, rfl, rfl, by decide +kernel, rfl, by decide +kernel, by decide +kernel⟩
theorem ok_other {f : Addr} {fd : FuncData} (F : Fun K "_law_other" "_law_other" s40 f fd) (B : Bt mg) (U : C8.Cal P w K mg base 1 "_law_draw" spDraw []) (Us : C8.Cal P w K mg base 2 "_law_shuffled" (spShuf K) []) (U1 : C8.Cal P w K mg base 2 "_law_one" spOne []) (Ub : C8.Cal P w K mg base 4 "_law_ballot" (spLB K) []) (Ur : C8.Cal P w K mg base 5 "_law_rows" (spLR K) []) (Ut : C8.Cal P w K mg base 3 "_law_told_anew" (spTold K) []) : FnOk P w K mg base CX0 6 f fd ["_law_well_here", "_law_options_here", "_law_rows_here"] (spOther K) := by
  refine F.ok sc40 (fun vs H Q E h => ?_) (fun cdv A outer s H vs Q E hr h => ?_)
  · obtain ⟨wl, a, v, n, os, rs, rfl, _⟩ := h
    rfl
  · obtain ⟨wl, a, v, n, os, rs, rfl, hw, ha, oo, hv, okr, l8, hn, k⟩ := h
    refine ⟨_, pss_cons (ps_set (i := 3) sc40.nd rfl (Or.inl rfl) (C8.pe_c U hr (by decide) (by rfl) (pa_cons (pv 0) (pa_cons pe_int pa_nil))))
      (pss_cons (ps_if (PW.pt (pw_or (pt_cmpR op_eq (pv 3) pe_int (nomark _)) (pw_or1 (pt_cmpR (o_eq (K := K) hr) (pv 2) (pe_tup pa_nil) (nomark _)))))
          (pss_one (ps_ret (C8.pe_c Ur hr (by decide) (by rfl) (pa_cons (pv 0) (pa_cons (pv 1) (pa_cons pe_int pa_nil)))))) pss_nil)
      (pss_cons (ps_set (i := 4) sc40.nd rfl (Or.inl rfl) (pe_lst pa_nil))
      (pss_cons (ps_for PassesOwn.never rfl (i_list (K := K) (C8.pe_c Us hr (by decide) (by rfl) (pa_cons (pv 0) (pa_cons (pv 2) pa_nil)))) (pg_tup (by rfl) (by exact pgs_cons (pg_name (i := 5) sc40.nd rfl (Or.inl rfl)) (pgs_cons (pg_name (i := 6) sc40.nd rfl (Or.inl rfl)) pgs_nil)))
        (pss_cons (ps_set (i := 7) sc40.nd rfl (Or.inl rfl) (pe_ix ix_list (pe_lst (pa_cons (pv 6) (pa_cons (pe_op op_add pe_int (C8.pe_c U hr (by decide) (by rfl) (pa_cons (pv 0) (pa_cons (pv 6) pa_nil)))) pa_nil))) (C8.pe_c U hr (by decide) (by rfl) (pa_cons (pv 0) (pa_cons pe_int pa_nil))) (fun _ _ => rfl)))
        (pss_cons (ps_expr (pe_bm PySem.F.plainAttrs_list PySem.F.slot_list_append PySem.F.type_list_append mt_append (pv 4) (pa_cons (pe_tup (pa_cons (C8.pe_c Ut hr (by decide) (by rfl) (pa_cons (pv 0) (pa_cons (pv 1) (pa_cons (pv 5) pa_nil)))) (pa_cons (pv 7) pa_nil))) pa_nil)))
        (pss_one (ps_if (pt_cmpR op_lt (pv 7) (pv 6) (nomark _)) (pss_one (ps_expr (pe_bm PySem.F.plainAttrs_list PySem.F.slot_list_append PySem.F.type_list_append mt_append (pv 4) (pa_cons (pe_tup (pa_cons (C8.pe_c Ut hr (by decide) (by rfl) (pa_cons (pv 0) (pa_cons (pv 1) (pa_cons (pv 5) pa_nil)))) (pa_cons (pe_op op_sub (pv 6) (pv 7)) pa_nil))) pa_nil)))) pss_nil)))))
      (pss_cons (ps_join (ps_if (pt_cmpR op_eq (pv 3) pe_int (nomark _))
          (pss_cons (ps_set (i := 8) sc40.nd rfl (Or.inl rfl) (C8.pe_c U hr (by decide) (by rfl) (pa_cons (pv 0) (pa_cons (e_len (K := K) B.len (pv 4)) pa_nil))))
          (pss_cons (ps_asg (pe_ix ix_list (pv 4) (pv 8) (fun _ _ => rfl)) (pg_tup (by rfl) (by exact pgs_cons (pg_name (i := 5) sc40.nd rfl (Or.inl rfl)) (pgs_cons (pg_name (i := 6) sc40.nd rfl (Or.inl rfl)) pgs_nil))))
          (pss_one (ps_asg (C8.pe_c U1 hr (by decide) (by rfl) (pa_cons (pv 0) (pa_cons (pe_lst (pa_cons (pe_tup (pa_cons (pv 5) (pa_cons (pe_op op_add (pe_op op_mod (pv 6) (pe_op op_pow pe_int pe_int)) pe_int) pa_nil)))
              (pa_cons (pe_tup (pa_cons (C8.pe_c Ub hr (by decide) (by rfl) (pa_cons (pv 0) (pa_cons (pv 1) pa_nil))) (pa_cons (pv 6) pa_nil))) pa_nil))) pa_nil))) (pg_sub (pv 4) (pv 8) set_list))))) pss_nil))
      (pss_one (ps_ret (e_tuple (K := K) B.tyTup (pv 4)))))))), ?_⟩
    refine ⟨_, rfl, wl, 5, n, rfl, hw, by omega, by decide, by decide, fun way H1 y0 y5 s1 w1 => ?_⟩
    have ha1 := (s1.tk hw.soft).t _ _ ha
    have hv1 := s1.dt hw hv
    have give : ∀ {Hx : Hp}, Sw wl H Hx → Well Hx wl (n + 1) → spLR K [.ref wl, .ref a, .int 5] Hx Q (C8.E0 ·  · ·) := fun {Hx} sx wx =>
      ⟨wl, a, 5, n + 1, os, rfl, wx, (sx.tk hw.soft).t _ _ ha, oo, by omega, by decide, by decide, fun v' rs' H' s' w' hv' ok' l' => k v' rs' H' (sx.trans s') (w'.mono (by omega)) hv' ok' (by omega)⟩
    refine ⟨_, rfl, rfl, _, rfl, ?_⟩
    by_cases yz : way = 0
    · subst yz
      rw [decide_eq_true rfl]
      exact iteT (iteT ⟨_, rfl, _, rfl, give s1 w1⟩)
    rw [decide_eq_false (fun q => yz (by cases q; rfl))]
    refine iteF ⟨_, rfl, Nat.le_of_ble_eq_true rfl, fun e he => ?_⟩
    have se : Same H1 (upd H1 e (.tup [])) := L2.Same.put he
    refine eq_d (hv1.same se) (.new upd_same .nil) ((gd_dV oo okr).fit (by decide)) (by decide) (fun z => ?_) fun z => ?_
    · exact ⟨_, rfl, iteT ⟨_, rfl, _, rfl, give (s1.trans (Sw.of se)) (w1.same se)⟩⟩
    refine ⟨_, rfl, iteF ?_⟩
    have rne : 1 ≤ rs.length := by
      cases rs with
      | nil => exact absurd rfl z
      | cons _ _ => simp
    obtain ⟨H2, eH2⟩ : ∃ H2, H2 = upd H1 e (.tup []) := ⟨_, rfl⟩
    rw [← eH2] at se ⊢
    have s2 := s1.trans (Sw.of se)
    have w2 := w1.same se
    refine ⟨Nat.le_of_ble_eq_true rfl, fun fl hfl => ?_⟩
    have nfl := w2.ne hfl
    have hfl0 : H fl = none := s2.fresh' w2 hfl
    have sfl : Same H2 (upd H2 fl (.lst [])) := L2.Same.put hfl
    obtain ⟨H3, eH3⟩ : ∃ H3, H3 = upd H2 fl (.lst []) := ⟨_, rfl⟩
    have h3fl : H3 fl = some (.lst []) := by rw [eH3]; exact upd_same
    rw [← eH3] at sfl ⊢
    have s3 := s2.trans (Sw.of sfl)
    have w3 := w2.same sfl
    have hv3 := s3.dt hw hv
    obtain ⟨ar, xs, rfl, har, hdr⟩ := dV_inv hv3
    have lxs : xs.length = rs.length := by rw [hdr.length, List.length_map]
    refine ⟨_, rfl, _, rfl, wl, ar, n + 1, xs, rfl, w3, har, by omega, by omega, fun D ys H4 s4 w4 pm hD hD0 => ?_⟩
    have s04 := s3.trans s4
    have nD : D ≠ wl := w3.ne hD0
    have hD00 : H D = none := s3.fresh' w3 hD0
    have lys : ys.length = rs.length := by rw [pm.length_eq, lxs]
    have hdr4 : Dts K H4 xs (rs.map dR) := hdr.mono (s4.tk w3.soft)
    have nDf : D ≠ fl := fun q => by
      rw [q, h3fl] at hD0
      cases hD0
    have app : ∀ {Hx : Hp} {zs : List V} {fs : List (Bal × Int)} {t : Addr} {v : V} {b : Bal} {c : Int} {m : Nat}, Sw wl H Hx → Tk K H4 Hx → Well Hx wl m → Hx D = some (.lst ys) → Hx fl = some (.lst zs) → Dts K Hx zs (fs.map dR) → (∀ r ∈ fs, OkR os r) → Hx t = none → Dt K Hx v (dB b) → OkR os (b, c) →
        upd Hx t (.tup [v, .int c]) fl = some (.lst zs) ∧ Sw wl H (upd (upd Hx t (.tup [v, .int c])) fl (.lst (zs ++ [.ref t]))) ∧ Tk K H4 (upd (upd Hx t (.tup [v, .int c])) fl (.lst (zs ++ [.ref t]))) ∧ Well (upd (upd Hx t (.tup [v, .int c])) fl (.lst (zs ++ [.ref t]))) wl m ∧
        upd (upd Hx t (.tup [v, .int c])) fl (.lst (zs ++ [.ref t])) D = some (.lst ys) ∧ upd (upd Hx t (.tup [v, .int c])) fl (.lst (zs ++ [.ref t])) fl = some (.lst (zs ++ [.ref t])) ∧ Dts K (upd (upd Hx t (.tup [v, .int c])) fl (.lst (zs ++ [.ref t]))) (zs ++ [.ref t]) ((fs ++ [(b, c)]).map dR) ∧ ∀ r ∈ fs ++ [(b, c)], OkR os r := by
      intro Hx zs fs t v b c m sx tx wx hDx hx dx okx ht hb okb
      have st : Same Hx (upd Hx t (.tup [v, .int c])) := L2.Same.put ht
      have tk : Tk K (upd Hx t (.tup [v, .int c])) (upd (upd Hx t (.tup [v, .int c])) fl (.lst (zs ++ [.ref t]))) := Tk.upd (by rw [st _ _ hx]; exact Soft.lst)
      refine ⟨st _ _ hx, (sx.trans (Sw.of st)).over hfl0, (tx.trans (Tk.same st)).trans tk, (wx.same st).upd nfl, by rw [upd_ne nDf]; exact st _ _ hDx, upd_same, ?_, ?_⟩
      · rw [List.map_append]
        exact ((dx.same st).mono tk).snoc ((Dt.new upd_same (.cons (hb.same st) (.cons (.int _) .nil))).mono tk)
      · intro r hr'
        rcases List.mem_append.mp hr' with hr' | hr'
        · exact okx r hr'
        · obtain rfl := List.mem_singleton.mp hr'
          exact okb
    refine ⟨D, rfl, ⟨_, SqL.of hD⟩, for_list (xs := ys) (fun i σ H5 => (∃ x5 x6 x7, σ = [some (.ref wl), some (.ref a), some (.ref ar), some (.int way), some (.ref fl), x5, x6, x7, none]) ∧ Sw wl H H5 ∧ Tk K H4 H5 ∧ Well H5 wl (n + 9 + 4 * i) ∧ H5 D = some (.lst ys) ∧ ∃ (fs : List (Bal × Int)) (zs : List V), H5 fl = some (.lst zs) ∧ Dts K H5 zs (fs.map dR) ∧ (∀ r ∈ fs, OkR os r) ∧ i ≤ fs.length ∧ fs.length ≤ 2 * i)
      ⟨⟨_, _, _, rfl⟩, s04, Tk.refl _, w4.mono (by omega), hD, [], [], s4 _ _ nfl h3fl, .nil, (fun r h => nomatch h), Nat.le_refl _, Nat.le_refl _⟩ (fun i σ H5 _ h => SqL.of h.2.2.2.2.1) ?_ ?_⟩
    · rintro i x σ H5 hx ⟨⟨x5, x6, x7, rfl⟩, s5, t5, w5, hD5, fs, zs, h5, d5, ok5, l1, l2⟩
      have hil : i < ys.length := (List.getElem?_eq_some_iff.mp hx).1
      have lzs : zs.length = fs.length := by rw [d5.length, List.length_map]
      obtain ⟨r, hrm, hrd⟩ : ∃ r, r ∈ rs ∧ Dt K H4 x (dR r) := by
        have q := pm.subset (List.mem_of_getElem? hx)
        obtain ⟨j, hj⟩ := List.mem_iff_getElem?.mp q
        obtain ⟨d, hd1, hd2⟩ := hdr4.get hj
        rw [List.getElem?_map] at hd1
        cases hq : rs[j]? with
        | none => rw [hq] at hd1; cases hd1
        | some r =>
          rw [hq] at hd1
          cases hd1
          exact ⟨r, List.mem_of_getElem? hq, hd2⟩
      have okr0 := okr r hrm
      obtain ⟨ax, vb, rfl, hax, hvb⟩ := row_inv (hrd.mono t5)
      refine ⟨ax, _, rfl, hax, rfl, _, _, rfl, _, _, rfl, rfl, ?_⟩
      have c1 : r.2 ≤ 1000000 := okr0.hi
      have c0 : 1 ≤ r.2 := okr0.lo
      refine ⟨_, rfl, _, rfl, _, rfl, wl, r.2, _, rfl, w5, by omega, by omega, by omega, fun d H6 d0 d1 s6 w6 => ?_⟩
      refine ⟨1, d, rfl, rfl, Nat.le_of_ble_eq_true rfl, fun l hl => ?_⟩
      have sl : Same H6 (upd H6 l (.lst [.int r.2, .int (1 + d)])) := L2.Same.put hl
      have nl : l ≠ wl := w6.ne hl
      have w7 := w6.same sl
      refine ⟨_, rfl, wl, 2, _, rfl, w7, by omega, by decide, by decide, fun e2 H8 e0 e1 s8 w8 => ?_⟩
      refine ⟨l, _, e2, _, rfl, rfl, SqL.of (s8 _ _ nl upd_same), pick2 e0 e1, ?_⟩
      obtain ⟨q, hq, q1, q2⟩ : ∃ q : Int, q = (if e2 = 0 then r.2 else 1 + d) ∧ 1 ≤ q ∧ q ≤ r.2 := ⟨_, rfl, by split <;> omega, by split <;> omega⟩
      rw [← hq]
      have s58 : Sw wl H5 H8 := (s6.trans (Sw.of sl)).trans s8
      have s08 := s5.trans s58
      have t58 : Tk K H5 H8 := s58.tk w5.soft
      have ha8 := (s08.tk hw.soft).t _ _ ha
      have h8 := s58 _ _ nfl h5
      have hD8 := s58 _ _ nD hD5
      have d8 := d5.mono t58
      have vb8 := hvb.mono t58
      refine ⟨_, rfl, .inl ⟨rfl, _, SqL.of h8⟩, ?_⟩
      refine ⟨_, rfl, _, rfl, _, rfl, wl, a, vb, _, os, r.1, rfl, w8, ha8, oo, vb8, okr0.bal, by omega, fun v1 b1 H9 s9 w9 hv1 ob1 => ?_⟩
      refine ⟨_, rfl, Nat.le_of_ble_eq_true rfl, fun t ht => ?_⟩
      obtain ⟨g1, g2, g3, g4, g5, g6, g7, g8⟩ := app (v := v1) (b := b1) (c := q) (s08.trans s9) ((t5.trans t58).trans (s9.tk w8.soft)) w9 (s9 _ _ nD hD8) (s9 _ _ nfl h8) (d8.mono (s9.tk w8.soft)) ok5 ht hv1 ⟨ob1, q1, by show q ≤ 1000000; omega⟩
      refine ⟨fl, zs, _, rfl, rfl, g1, small1000 (by omega), ?_⟩
      refine ⟨_, rfl, _, rfl, _, _, rfl, rfl, _, rfl, ?_⟩
      by_cases lt : q < r.2
      · show if decide (q < r.2) = true then _ else _
        rw [if_pos (decide_eq_true lt)]
        refine ⟨_, rfl, .inl ⟨rfl, _, SqL.of g6⟩, ?_⟩
        have hag := (g2.tk hw.soft).t _ _ ha
        have vbg : Dt K _ vb (dB r.1) := (hvb.mono ((t58.trans (s9.tk w8.soft)).trans ((Tk.same (L2.Same.put ht)).trans (Tk.upd (o := .lst (zs ++ [.ref t])) (by rw [g1]; exact Soft.lst)))))
        refine ⟨_, rfl, _, rfl, _, rfl, wl, a, vb, _, os, r.1, rfl, g4, hag, oo, vbg, okr0.bal, by omega, fun v2 b2 H10 s10 w10 hv2 ob2 => ?_⟩
        refine ⟨_, rfl, _, rfl, _, _, rfl, rfl, Nat.le_of_ble_eq_true rfl, fun t2 ht2 => ?_⟩
        have s10t := s10.tk (K := K) g4.soft
        obtain ⟨f1, f2, f3, f4, f5, f6, f7, f8⟩ := app (v := v2) (b := b2) (c := r.2 - q) (g2.trans s10) (g3.trans s10t) w10 (s10 _ _ nD g5) (s10 _ _ nfl g6) (g7.mono s10t) g8 ht2 hv2 ⟨ob2, by show 1 ≤ r.2 - q; omega, by show r.2 - q ≤ 1000000; omega⟩
        refine ⟨fl, _, _, rfl, rfl, f1, small1000 (by rw [List.length_append]; simp; omega), ?_⟩
        refine ⟨⟨_, _, _, rfl⟩, f2, f3, f4.mono (by omega), f5, _, _, f6, f7, f8, ?_, ?_⟩
        · rw [List.length_append, List.length_append]
          simp
          omega
        · rw [List.length_append, List.length_append]
          simp
          omega
      · show if decide (q < r.2) = true then _ else _
        rw [if_neg (by rw [decide_eq_true_iff]; exact lt)]
        refine ⟨⟨_, _, _, rfl⟩, g2, g3, g4.mono (by omega), g5, _, _, g6, g7, g8, ?_, ?_⟩
        · rw [List.length_append]
          simp
          omega
        · rw [List.length_append]
          simp
          omega
    · rintro σ H5 ⟨⟨x5, x6, x7, rfl⟩, s5, t5, w5, hD5, fs, zs, h5, d5, ok5, l1, l2⟩
      have lzs : zs.length = fs.length := by rw [d5.length, List.length_map]
      refine ⟨fun σ H6 => (∃ x5 x6 x7 x8, σ = [some (.ref wl), some (.ref a), some (.ref ar), some (.int way), some (.ref fl), x5, x6, x7, x8]) ∧ Sw wl H H6 ∧ Well H6 wl (n + 4000) ∧ ∃ (fs : List (Bal × Int)) (zs : List V), H6 fl = some (.lst zs) ∧ Dts K H6 zs (fs.map dR) ∧ (∀ r ∈ fs, OkR os r) ∧ fs.length ≤ 16, ?_, ?_⟩
      · refine ⟨_, rfl, rfl, _, rfl, ?_⟩
        by_cases y1 : way = 1
        · subst y1
          rw [decide_eq_true rfl]
          refine iteT ?_
          refine ⟨_, rfl, _, rfl, fl, _, rfl, .inl (SqL.of h5), wl, _, _, rfl, w5, by omega, by omega, by omega, fun d H6 d0 d1 s6 w6 => ?_⟩
          have t56 := s6.tk (K := K) w5.soft
          have h6 := s6 _ _ nfl h5
          have d6 := d5.mono t56
          obtain ⟨x, ax, ex⟩ := atI_draw d0 d1
          obtain ⟨dd, hd1, hd2⟩ := d6.get ex
          rw [List.getElem?_map] at hd1
          cases hq : fs[d.toNat]? with
          | none => rw [hq] at hd1; cases hd1
          | some r =>
            rw [hq] at hd1
            cases hd1
            have okr0 := ok5 r (List.mem_of_getElem? hq)
            have c1 : r.2 ≤ 1000000 := okr0.hi
            have c0 : 1 ≤ r.2 := okr0.lo
            obtain ⟨ay, vb, rfl, hay, hvb⟩ := row_inv hd2
            refine ⟨_, rfl, _, rfl, fl, zs, d, _, rfl, rfl, SqL.of h6, ax, ay, _, rfl, hay, rfl, _, _, rfl, _, _, rfl, rfl, ?_⟩
            refine ⟨_, rfl, _, rfl, _, rfl, 10, 6, rfl, rfl, ⟨by decide, by decide, by decide⟩, _, _, rfl, rfl, (by show (0 : Int) < 10 ^ (6 : Int).toNat; decide), _, 1, rfl, rfl, Nat.le_of_ble_eq_true rfl, fun t1 ht1 => ?_⟩
            obtain ⟨m, hm⟩ : ∃ m : Int, m = r.2 % (10 ^ (6 : Int).toNat) + 1 := ⟨_, rfl⟩
            have m01 : 1 ≤ m ∧ m ≤ 1000000 := by
              rw [hm]
              have e10 : (10 : Int) ^ (6 : Int).toNat = 1000000 := rfl
              rw [e10]
              omega
            have st1 : Same H6 (upd H6 t1 (.tup [vb, .int m])) := L2.Same.put ht1
            obtain ⟨H7, eH7⟩ : ∃ H7, H7 = upd H6 t1 (.tup [vb, .int m]) := ⟨_, rfl⟩
            have h7t : H7 t1 = some (.tup [vb, .int m]) := by rw [eH7]; exact upd_same
            change tCons _ _ _ (upd H6 t1 (.tup [vb, .int (r.2 % (10 ^ (6 : Int).toNat) + 1)])) _
            rw [← hm]
            rw [← eH7] at st1 ⊢
            have w7 := w6.same st1
            have s57 := s6.trans (Sw.of st1)
            have s07 := s5.trans s57
            have ha7 := (s07.tk hw.soft).t _ _ ha
            have hb1 : Dt K H7 (.ref t1) (dR (r.1, m)) := .new h7t (.cons (hvb.same st1) (.cons (.int _) .nil))
            refine ⟨_, rfl, _, rfl, wl, a, _, os, rfl, w7, ha7, oo, by omega, fun v2 b2 H8 s8 w8 hv2 ob2 => ?_⟩
            refine ⟨_, rfl, Nat.le_of_ble_eq_true rfl, fun t2 ht2 => ?_⟩
            have st2 : Same H8 (upd H8 t2 (.tup [v2, .int r.2])) := L2.Same.put ht2
            obtain ⟨H9, eH9⟩ : ∃ H9, H9 = upd H8 t2 (.tup [v2, .int r.2]) := ⟨_, rfl⟩
            have h9t : H9 t2 = some (.tup [v2, .int r.2]) := by rw [eH9]; exact upd_same
            rw [← eH9] at st2 ⊢
            have hb2 : Dt K H9 (.ref t2) (dR (b2, r.2)) := .new h9t (.cons (hv2.same st2) (.cons (.int _) .nil))
            have w9 := w8.same st2
            refine ⟨Nat.le_of_ble_eq_true rfl, fun l hl => ?_⟩
            have sl : Same H9 (upd H9 l (.lst [.ref t1, .ref t2])) := L2.Same.put hl
            have nl : l ≠ wl := w9.ne hl
            have w10 := w9.same sl
            have s79 : Sw wl H7 _ := s8.trans (Sw.of (st2.trans sl))
            have hb1' := hb1.mono (s79.tk w7.soft)
            have hb2' := hb2.same sl
            have s510 := s57.trans s79
            refine ⟨wl, l, _, _, rfl, w10, by omega, nl, upd_same, by simp, by simp, fun ii x H11 hx s11 w11 => ?_⟩
            have s511 := s510.trans s11
            have h11 := s511 _ _ nfl h5
            have d11 := d5.mono (s511.tk w5.soft)
            obtain ⟨r', okr', hxr⟩ : ∃ r', OkR os r' ∧ Dt K H11 x (dR r') := by
              have tk := s11.tk (K := K) w10.soft
              rcases ii with _ | _ | ii
              · cases hx
                exact ⟨(r.1, m), ⟨okr0.bal, m01.1, m01.2⟩, hb1'.mono tk⟩
              · cases hx
                exact ⟨(b2, r.2), ⟨ob2, okr0.lo, okr0.hi⟩, hb2'.mono tk⟩
              · cases hx
            have dlen : d.toNat < zs.length := (List.getElem?_eq_some_iff.mp ex).1
            refine ⟨_, rfl, _, rfl, fl, zs, d, d.toNat, rfl, rfl, h11, ?_, ?_⟩
            · unfold ixN
              rw [if_pos d0, if_pos d1]
            have tk5 : Tk K H11 (upd H11 fl (.lst (zs.set d.toNat x))) := Tk.upd (by rw [h11]; exact Soft.lst)
            refine ⟨⟨_, _, _, _, rfl⟩, (s5.trans s511).over hfl0, (w11.upd nfl).mono (by omega), fs.set d.toNat r', _, upd_same, ?_, ?_, ?_⟩
            · rw [List.map_set]
              exact Dts.set _ (d11.mono tk5) (hxr.mono tk5)
            · intro y hy
              rcases List.mem_or_eq_of_mem_set hy with hy | rfl
              · exact ok5 y hy
              · exact okr'
            · rw [List.length_set]
              omega
        · rw [decide_eq_false (fun q => y1 (by cases q; rfl))]
          exact iteF ⟨⟨_, _, _, _, rfl⟩, s5, w5.mono (by omega), fs, zs, h5, d5, ok5, by omega⟩
      · rintro σ' H6 ⟨⟨x5, x6, x7, x8, rfl⟩, s6, w6, fs, zs, h6, d6, ok6, l6⟩
        exact ⟨_, rfl, tup_d h6 d6 fun v' H7 s7 hv' => k v' fs H7 (s6.trans (Sw.of s7)) (w6.same s7) hv' ok6 l6⟩
end
end VF
set_option maxHeartbeats 4000000
/-! ## BT. sorted of a list of data; _law_counted -/
namespace VF
open PySem L2 PySem.Spec PyProof.Rows
open PySem.W (EachIs AllAlike Sortable dataLe alike alikeAll)
abbrev s41 : Stmt := top 41
/-- sorted(l), l a list of data -/
structure SrtDR (K : PySem.W.Frag) (xs : List V) (H : Hp) (Q : VK) : Prop where
  ok : ∃ (l : Addr) (ys : List V) (ds : List PyData), xs = [.ref l] ∧ H l = some (.lst ys) ∧ Dts K H ys ds ∧ AllAlike (ds.map real) ∧ Sortable (ds.map real) ∧ (∀ d ∈ ds, d.depth ≤ 9) ∧
    ∀ p zs H', Same H H' → H' p = some (.lst zs) → Dts K H' zs (ds.mergeSort (dataLe false real)) → Q (.ref p) H'
section
variable {K : PySem.W.Frag} {H : Hp}
theorem each_of : ∀ {xs : List V} {us : List Value} {ds : List PyData}, Vals xs us → Dts K H xs ds → EachIs (fun u d => ∃ x, RelV x u ∧ Dt K H x d) us ds
  | _, _, _, .nil, .nil => .nil
  | _, _, _, .cons r rr, .cons h t => .cons ⟨_, r, h⟩ (each_of rr t)
theorem each_to : ∀ {us : List Value} {ds : List PyData}, EachIs (fun u d => ∃ x, RelV x u ∧ Dt K H x d) us ds → ∃ xs, Vals xs us ∧ Dts K H xs ds
  | _, _, .nil => ⟨[], .nil, .nil⟩
  | _, _, .cons ⟨x, r, h⟩ t => by
    obtain ⟨xs, r2, h2⟩ := each_to t
    exact ⟨x :: xs, .cons r r2, .cons h h2⟩
end
theorem c_sortD {X : Cx} {k : Nat} (hr : Room k X.A) : CallR X (.builtin "sorted") (SrtDR X.K) := by
  intro pins s σ H xs us Q I r h
  obtain ⟨l, ys, ds, rfl, hl, hd, hal, hso, hdp, q⟩ := h.ok
  obtain ⟨hz, _⟩ := I.lstM hl
  obtain ⟨its, rv, hlo, _⟩ := I.list (SqL.of hl)
  rw [Vals.ref1 r]
  have el := each_of rv hd
  have er : EachIs (fun v d => ∃ as, Reads s.heap v (real d) as) its ds := el.mono fun u d ⟨x, r1, h1⟩ => Dp.reads I _ _ _ h1.dp r1
  have hL : ds.length ≤ sizeLine := by rw [← hd.length]; exact hz
  have hu := hr.un
  refine PySem.W.sorted_data (hl := hlo.isList) el er hal hso hL (fun d hd' => by
    have q1 := hdp d hd'
    rw [depth_real]
    omega) fun out lo eo => ?_
  obtain ⟨zs, r1, d1⟩ := each_to eo
  obtain ⟨ep, he'⟩ := PyProof.Rows.sortedAll_at s.heap its out.toArray
  have hlen : zs.length ≤ sizeLine := by rw [d1.length, List.length_mergeSort]; exact hL
  have hfree := I.hok.fresh (Nat.le_succ s.heap.objs.size)
  have st : Same H (upd H (s.heap.objs.size + 1) (.lst zs)) := L2.Same.put hfree
  exact ⟨.ref _, upd H (s.heap.objs.size + 1) (.lst zs), I.laid (t' := s.toks) (fun _ _ => PyProof.Rows.sortedAll_old) (Nat.le_succ _) ⟨hlen, out, ep, r1, he'⟩, rfl, q _ zs _ st upd_same (d1.same st)⟩
theorem e_sortD {X : Cx} {K : PySem.W.Frag} {k : Nat} {a : Expr} {ta : TE} {p pos : Pos} (hm : X.mg "sorted" = none) (hr : Room k X.A) (ha : PE X a ta) (hK : X.K = K := by rfl) (hg : Gl X "sorted" := by rfl) (he : starEach [a] X.env = (false, eval a X.env) :: starEach [] X.env := by rfl) :
    PE X (.Call (.Name "sorted" p) [a] [] pos) (tCB (SrtDR K) (tCons ta tNil)) := by
  subst hK
  exact pe_callB (c_sortD hr) hg hm (by decide +kernel) (pa_cons ha pa_nil he) (by decide) (by decide) he rfl

/-! ### _law_counted -/
theorem tput_keys (m : Tally) (k : List (List Str)) (v : Int) : ∀ p ∈ tput m k v, p.1 = k ∨ ∃ q ∈ m, q.1 = p.1 := by
  intro p hp
  unfold tput at hp
  split at hp
  · obtain ⟨q, hq, rfl⟩ := List.mem_map.mp hp
    refine .inr ⟨q, hq, ?_⟩
    split <;> rfl
  · rcases List.mem_append.mp hp with hp | hp
    · exact .inr ⟨p, hp, rfl⟩
    · obtain rfl := List.mem_singleton.mp hp
      exact .inl rfl
theorem tallyOn_keys (f : Bal → List (List Str)) : ∀ (rs : List (Bal × Int)) (m : Tally), ∀ p ∈ tallyOn f m rs, (∃ r ∈ rs, p.1 = f r.1) ∨ ∃ q ∈ m, q.1 = p.1
  | [], m, p, hp => .inr ⟨p, hp, rfl⟩
  | r :: rs, m, p, hp => by
    rcases tallyOn_keys f rs (tput m (f r.1) ((tval m (f r.1)).getD 0 + r.2)) p hp with ⟨r', h', e⟩ | ⟨q, hq, e⟩
    · exact .inl ⟨r', List.mem_cons_of_mem _ h', e⟩
    · rcases tput_keys _ _ _ q hq with e2 | ⟨q2, h2, e2⟩
      · exact .inl ⟨r, List.mem_cons_self .., by rw [← e, e2]⟩
      · exact .inr ⟨q2, h2, e2.trans e⟩
theorem tally_keys (f : Bal → List (List Str)) (rs : List (Bal × Int)) : ∀ p ∈ tally f rs, ∃ r ∈ rs, p.1 = f r.1 := fun p hp => by
  rcases tallyOn_keys f rs [] p hp with h | ⟨q, hq, _⟩
  · exact h
  · cases hq
/-- what _law_counted tells, before it is sorted -/
def cntU (os : List Str) (rs : List (Bal × Int)) : List (Str × Int) := (tl os rs).map fun p => (PyData.shown (real (dT p.1)), p.2)
def cntD (os : List Str) (rs : List (Bal × Int)) : List PyData := ((cntU os rs).map dP).mergeSort (dataLe false real)
def spCnt (K : PySem.W.Frag) : List Code → Sp := fun g vs H Q _ => g = [] ∧ ∃ (o v : V) (os : List Str) (rs : List (Bal × Int)), vs = [o, v] ∧ Dt K H o (dN os) ∧ Dt K H v (dV rs) ∧ OkO os ∧ (∀ r ∈ rs, OkR os r) ∧ rs.length ≤ 100 ∧
  ∀ p zs H', Same H H' → H' p = some (.lst zs) → Dts K H' zs (cntD os rs) → Q (.ref p) H'
theorem real_dP (p : Str × Int) : real (dP p) = dP p := by
  show PyData.tuple (reals [.str p.1, .int p.2]) = _
  rfl
section
variable {P : Program} {w : World} {K : PySem.W.Frag} {mg : Str → Option Value} {base : Heap}
theorem sc41 : FnScope ["_law_options_here", "_law_rows_here", "_law_found", "_law_ballot_here", "_law_count", "_law_row"] ["_law_options_here", "_law_rows_here"] (defScope s41) := ⟨rfl, rfl, rfl, by decide +kernel, rfl, by decide +kernel, by decide +kernel⟩
theorem ok_counted {f : Addr} {fd : FuncData} (F : Fun K "_law_counted" "_law_counted" s41 f fd) (B : Bt mg) (hrep : mg "repr" = none) (Ut : C8.Cal P w K mg base 2 "_law_tiers" (spTiers K) []) : FnG P w K mg base CX0 3 f fd ["_law_options_here", "_law_rows_here"] (spCnt K) := by
  refine okG F sc41 (fun g vs H Q E h => ?_) (fun cdv g A outer s H vs Q E hr hg h => ?_)
  · obtain ⟨_, o, v, os, rs, rfl, _⟩ := h
    rfl
  · obtain ⟨rfl, o, v, os, rs, rfl, ho, hv, oo, okr, hz, k⟩ := h
    refine ⟨_, pss_cons (ps_set (i := 2) sc41.nd rfl (Or.inl rfl) (pe_ndnew (P := P) (w := w) (K := K)))
      (pss_cons (ps_for PassesOwn.never rfl (i_tup (K := K) (pv 1)) (pg_tup (by rfl) (by exact pgs_cons (pg_name (i := 3) sc41.nd rfl (Or.inl rfl)) (pgs_cons (pg_name (i := 4) sc41.nd rfl (Or.inl rfl)) pgs_nil)))
        (pss_cons (ps_set (i := 5) sc41.nd rfl (Or.inl rfl) (C8.pe_c Ut hr (by decide) (by rfl) (pa_cons (pv 0) (pa_cons (pv 3) pa_nil))))
        (pss_one (ps_asg (pe_op op_add (pe_ndget2 (P := P) (w := w) (K := K) hr (pv 2) (pv 5) pe_int ⟨rfl, rfl, rfl, rfl⟩) (pv 4)) (pg_sub (pv 2) (pv 5) (set_nd (P := P) (w := w) (K := K) hr))))))
      (pss_one (ps_ret (e_sortD (K := K) B.srt hr (pe_lc (own := [("_law_row", 5), ("_law_count", 4)]) rfl sc41.nd (pi_nd (P := P) (w := w) (K := K) (pv 2)) (blkOk_by (N := ["_law_options_here", "_law_rows_here", "_law_found", "_law_ballot_here", "_law_count", "_law_row"]) (sc := defScope s41) (by decide +kernel))
          (fun _ _ _ _ _ => g_tup (K := K) (n := 2) rfl (by exact pgs_cons (pg_name (i := 5) sc41.nd rfl (Or.inl rfl)) (pgs_cons (pg_name (i := 4) sc41.nd rfl (Or.inl rfl)) pgs_nil))) (fun _ _ _ _ _ => pts_nil)
          (fun _ _ _ _ _ => pe_tup (pa_cons (e_repr (K := K) hrep hr hg (pv 5)) (pa_cons (pv 4) pa_nil)))))))), ?_⟩
    intro d H1 hd s1 nd1
    obtain ⟨av, xv, rfl, hav, hdv⟩ := dV_inv hv
    have lv := hdv.length
    rw [List.length_map] at lv
    refine ⟨_, rfl, av, rfl, ⟨_, same_t s1 hav⟩, for_tup (xs := xv) (fun i σ H2 => (∃ x3 x4 x5, σ = [some o, some (.ref av), some (.ref d), x3, x4, x5]) ∧ Same H H2 ∧ Nd P w K H2 d (tally (fun b => tiersOf os (heightOf b)) (rs.take i)))
      ⟨⟨_, _, _, rfl⟩, s1, by rw [List.take_zero]; exact nd1⟩ (fun i σ H2 _ h => same_t h.2.1 hav) ?_ ?_⟩
    · rintro i x σ H2 hx ⟨⟨x3, x4, x5, rfl⟩, s2, nd⟩
      obtain ⟨dd, hd1, hd2⟩ := hdv.get hx
      have hi : i < xv.length := (List.getElem?_eq_some_iff.mp hx).1
      have hi2 : i < rs.length := by omega
      have er : rs[i]? = some rs[i] := List.getElem?_eq_getElem hi2
      rw [List.getElem?_map, er] at hd1
      cases hd1
      obtain ⟨b, y, rfl, hb, hyb⟩ := row_inv (hd2.same s2)
      refine ⟨b, _, rfl, hb, rfl, _, _, rfl, _, _, rfl, rfl, ?_⟩
      refine ⟨_, rfl, _, rfl, o, y, rs[i].1, os, rfl, ho.same s2, hyb, oo, (okr _ (List.getElem_mem hi2)).bal, fun v3 H3 s3 hv3 => ?_⟩
      refine ⟨_, rfl, d, _, rfl, nd.same s3, _, rfl, 0, rfl, nd.same s3, _, hv3, _, rfl, _, _, rfl, rfl, _, rfl, _, rfl, ⟨d, _, _, _, rfl, rfl, nd.same s3, hv3, ?_, fun H4 h4 nd4 => ⟨⟨_, _, _, rfl⟩, ?_, ?_⟩⟩⟩
      · have q := tally_len (fun b => tiersOf os (heightOf b)) (rs.take i)
        rw [List.length_take] at q
        omega
      · intro b u hbu
        exact h4 b u (ne_of_none hbu hd) (s3 _ _ (s2 _ _ hbu))
      · rw [List.take_succ_eq_append_getElem hi2, tally_snoc]
        exact nd4
    · rintro σ H2 ⟨⟨x3, x4, x5, rfl⟩, s2, nd⟩
      rw [lv, List.take_length] at nd
      have tlen : (tl os rs).length ≤ 100 := by
        have := tally_len (fun b => tiersOf os (heightOf b)) rs
        show (tally _ _).length ≤ _
        omega
      have kok : ∀ p ∈ tl os rs, OkB os (.ord p.1) := fun p hp => by
        obtain ⟨r, _, e⟩ := tally_keys _ rs p hp
        rw [e]
        exact ok_tiersOf oo
      refine ⟨_, rfl, d, _, rfl, nd, fun ob hob => fun D hD => lc_m (K := K) (tl os rs) (fun p => dP (PyData.shown (real (dT p.1)), p.2)) (walk_nd (P := P) (w := w) (K := K) (d := d) (o := ob)) hD (Nat.lt_of_le_of_lt tlen (by decide)) (fun H5 s6 => hob.same s6) ?_ fun H5 ys s6 hy hdy => ?_⟩
      · rintro i pr x H5 H6 hx s6 ⟨T2, kk, n, a, em, rfl, hT2, rfl, dk⟩
        rw [hx] at em
        cases em
        have s7 : Same H5 (upd H5 T2 (.tup [.ref a, .int n])) := L2.Same.put hT2
        have okk := kok _ (List.mem_of_getElem? hx)
        have sm : smI (dT kk) = true := by
          have q := okk.sm oo
          unfold dB at q
          simp only [smI, smIs, Bool.and_eq_true, Bool.and_true] at q
          exact q.2
        have sz : szD (dT kk) ≤ sizeLine := by
          have q := okk.sz oo
          unfold dB at q
          simp only [szD, szs] at q
          have q2 : szD (dT kk) ≤ 20000 := by
            show szD (Bal.ord kk).body ≤ 20000
            omega
          exact big_line (by omega)
        have dpt : PyData.depth (dT kk) ≤ 9 := by
          cases okk with
          | ord hN ne hm => exact Nat.le_trans (gd_dT fun t ht x hx => hN.sok oo x (List.mem_flatten.mpr ⟨t, ht, hx⟩)).2 (by decide)
        refine ⟨s7, fun A hA => ⟨T2, _, rfl, SqT.of upd_same, rfl, _, _, rfl, _, _, rfl, rfl, rfl, _, rfl, ⟨_, _, rfl, dk.same s7, sm, sz, dpt, ?_⟩⟩⟩
        refine ⟨_, rfl, Nat.le_of_ble_eq_true rfl, fun t ht => hA _ _ (L2.Same.put ht) (.new upd_same (.cons (.str _) (.cons (.int _) .nil)))⟩
      · have e1 : ((tl os rs).map fun p => dP (PyData.shown (real (dT p.1)), p.2)) = (cntU os rs).map dP := by
          unfold cntU
          rw [List.map_map]
          rfl
        rw [e1] at hdy
        have e2 : ((cntU os rs).map dP).map real = (cntU os rs).map dP := by
          rw [List.map_map]
          exact List.map_congr_left fun p _ => real_dP p
        refine ⟨⟨D, ys, _, rfl, hy, hdy, ?_, ?_, ?_, fun p zs H' s7 hp hz' => k p zs H' (s2.trans (s6.trans s7)) hp hz'⟩⟩
        · rw [e2]
          exact AllAlike.of fun p q => by simp [dP, alike, alikeAll]
        · rw [e2]
          exact Sortable.tuples fun p => ⟨_, _, rfl⟩
        · intro x hx
          obtain ⟨p, _, rfl⟩ := List.mem_map.mp hx
          show PyData.depth (.tuple [.str p.1, .int p.2]) ≤ 9
          simp [PyData.depth, PyData.depthAll]
end
end VF
set_option maxHeartbeats 4000000
/-! ## BU. _law_unjoined -/
namespace VF
open PySem L2
abbrev s43 : Stmt := top 43
theorem passNo {X : Cx} {P : Program} {w : World} (σ : L2.St) : PassesAt (L2.CX P w) X σ (fun _ _ _ => False) := fun _ _ _ _ _ _ c => by
  obtain ⟨_, _, _, _, _, _, _, _, _, _, _, _, z⟩ := c
  exact z.elim
theorem passesNo {X : Cx} {P : Program} {w : World} : Passes (L2.CX P w) X (fun _ _ _ => False) := fun _ _ _ _ _ _ _ c => by
  obtain ⟨_, _, _, _, _, _, _, _, _, _, _, _, z⟩ := c
  exact z.elim
def tPoll1 (K : PySem.W.Frag) (C CB : Addr) (E : XK) (t : TA) : TE := fun σ H Q => ∀ aE : Addr, (∀ H, SqT K H aE []) → tMake C (spInit K C CB) [.ref aE] E t σ H Q
/-- Poll(options), the rows left to their default -/
theorem e_poll1 {X : Cx} {j : Nat} {E : XK} {C CB : Addr} {p pos : Pos} {e1 : Expr} {t : TA} (M : MakP X.prog X.w X.K X.mg X.base C CB) (hr : Room j X.A) (hj : 7 ≤ j) (hx : Passes (L2.CX X.prog X.w) X E) (ha : PA X [e1] t) (hg : Gl X "Poll" := by rfl)
    (he : starEach [e1] X.env = (false, eval e1 X.env) :: starEach [] X.env := by rfl) (hpl : (backTo pos (starEach [] X.env)).any (·.1) = false := by rfl) :
    PE X (.Call (.Name "Poll" p) [e1] [] pos) (tPoll1 X.K C CB E t) := by
  obtain ⟨f, fd, aE, ds, mk, F, m, b, sE, b1, v1⟩ := M.ex
  exact ⟨fun pins s σ H Q I h => (pe_make mk F (hr.mono hj) hg m b1 v1 hx ha (by decide) he hpl).run pins s σ H Q I (h aE sE)⟩
def tMonoA (t : TA) : TA := fun σ H Q => ∃ R : List V → Hp → Prop, t σ H R ∧ ∀ vs H1, R vs H1 → Q vs H1
theorem pa_mono {X : Cx} {es : List Expr} {t : TA} (ha : PA X es t) : PA X es (tMonoA t) := by
  refine ⟨fun pos pins s σ H Q I h => ?_⟩
  obtain ⟨R, h1, h2⟩ := h
  exact thn (ha.run pos pins s σ H R I h1) fun us s' ⟨vs, H', J, r, k⟩ => ⟨vs, H', J, r, h2 _ _ k⟩
/-- Poll(options, rows), its reading closed -/
structure PollR (K : PySem.W.Frag) (C CB : Addr) (E : XK) (vs : List V) (H : Hp) (Q : VK) : Prop where
  ok : ∃ (o r : V) (os : List Str) (rs : List (Bal × Int)), vs = [o, r] ∧ Dt K H o (dN os) ∧ OkO os ∧ Dt K H r (dV rs) ∧ (∀ x ∈ rs, OkR os x) ∧ rs.length ≤ 1000 ∧
    (rs.length ≤ 30 → ∀ v H', Same H H' → Pl K C H' v os rs → Q v H') ∧ (30 < rs.length → ∀ d H', Same H H' → E (.ref CB) (some d) H')
structure PollR1 (K : PySem.W.Frag) (C : Addr) (vs : List V) (H : Hp) (Q : VK) : Prop where
  ok : ∃ (o : V) (os : List Str), vs = [o] ∧ Dt K H o (dN os) ∧ OkO os ∧ ∀ v H', Same H H' → Pl K C H' v os [] → Q v H'
def tPollM (K : PySem.W.Frag) (C CB : Addr) (E : XK) (t : TA) : TE := fun σ H Q => t σ H fun vs H1 => PollR K C CB E vs H1 Q
def tPollM1 (K : PySem.W.Frag) (C : Addr) (t : TA) : TE := fun σ H Q => t σ H fun vs H1 => PollR1 K C vs H1 Q
theorem e_pollM {X : Cx} {K : PySem.W.Frag} {j : Nat} {E : XK} {C CB : Addr} {p pos : Pos} {e1 e2 : Expr} {t : TA} (M : MakP X.prog X.w X.K X.mg X.base C CB) (hr : Room j X.A) (hj : 7 ≤ j) (hx : Passes (L2.CX X.prog X.w) X E) (ha : PA X [e1, e2] t) (hK : X.K = K := by rfl) (hg : Gl X "Poll" := by rfl)
    (he : starEach [e1, e2] X.env = (false, eval e1 X.env) :: starEach [e2] X.env := by rfl) (hpl : (backTo pos (starEach [e2] X.env)).any (·.1) = false := by rfl) :
    PE X (.Call (.Name "Poll" p) [e1, e2] [] pos) (tPollM K C CB E t) := by
  subst hK
  refine ⟨fun pins s σ H Q I h => (e_poll (E := E) M hr hj hx (pa_mono ha) hg he hpl).run pins s σ H Q I ⟨_, h, fun vs H1 r => ?_⟩⟩
  obtain ⟨o, r, os, rs, rfl, ho, oo, hv, ok, hz, k, e⟩ := r.ok
  exact mk_poll ho oo hv ok hz k e
theorem e_pollM1 {X : Cx} {K : PySem.W.Frag} {j : Nat} {C CB : Addr} {p pos : Pos} {e1 : Expr} {t : TA} (M : MakP X.prog X.w X.K X.mg X.base C CB) (hr : Room j X.A) (hj : 7 ≤ j) (ha : PA X [e1] t) (hK : X.K = K := by rfl) (hg : Gl X "Poll" := by rfl)
    (he : starEach [e1] X.env = (false, eval e1 X.env) :: starEach [] X.env := by rfl) (hpl : (backTo pos (starEach [] X.env)).any (·.1) = false := by rfl) :
    PE X (.Call (.Name "Poll" p) [e1] [] pos) (tPollM1 K C t) := by
  subst hK
  refine ⟨fun pins s σ H Q I h => (e_poll1 (E := fun _ _ _ => False) M hr hj passesNo (pa_mono ha) hg he hpl).run pins s σ H Q I fun aE hE => ⟨_, h, fun vs H1 r => ?_⟩⟩
  obtain ⟨o, os, rfl, ho, oo, k⟩ := r.ok
  exact mk_poll (rs := []) ho oo (.tup (hE _) .nil) (fun x h => nomatch h) (by simp) (fun _ v H' s' hv => k v H' s' hv) (fun h => absurd h (by simp))
def tOnly (K : PySem.W.Frag) (c : Value) (tb : WX → TS) (ts : Addr → Value → Option Addr → TS) (Wout : WX) : TS := fun D σ H => tb (wOnly K c ts Wout D) D σ H
theorem ps_only {X : Cx} {x : Str} {c : Value} {body suite : List Stmt} {b₀ : Stmt} {np pos pos' : Pos} {tb : WX → TS} {ts : Addr → Value → Option Addr → TS} {Wout : WX} (hs : X.stack = X.env :: X.outer) (hf : X.env.frame = some X.env.locals) (hc : Names X x c) (tk : Takes X Wout)
    (hb : ∀ (W : WX) (pn : List (Addr × Obj)) (xe : Value → Shared → Prop), Takes (X.tr pn xe) W → PassesOwn (model X.prog X.w) X.A X.env xe → PSs (X.tr pn xe) body (tb W))
    (hsu : ∀ (a : Addr) (oe : Obj) (cls : Value) (d : Option Addr) (pn : List (Addr × Obj)), Zc cls d oe → (∃ vs, oe.data = .fields vs) → PSs (X.suite a ((a, oe) :: pn)) (b₀ :: suite) (ts a cls d)) :
    PS X (.Try body [.ExceptHandler (some (.Name x np)) none (b₀ :: suite) pos'] [] [] pos) (tOnly X.K c tb ts Wout) := ps_try_only hs hf hc tk hb hsu
/-- tuple * int -/
structure RepTR (K : PySem.W.Frag) (x y : V) (H : Hp) (Q : VK) : Prop where
  h : rRepT K x y H Q
theorem o_repT {X : Cx} {K : PySem.W.Frag} (hK : X.K = K := by rfl) : OpR X (binaryOp .Mult) (RepTR K) := by
  subst hK
  exact fun pins s σ H x y v u Q I rx ry h => op_repT pins s σ H x y v u Q I rx ry h.h
theorem dts_rep {K : PySem.W.Frag} {H : Hp} {v : V} {d : PyData} (h : Dt K H v d) : ∀ n : Nat, Dts K H (List.replicate n v) (List.replicate n d)
  | 0 => .nil
  | n + 1 => .cons h (dts_rep h n)
theorem cutV_drop (xs : List V) (i : Nat) : cutV xs (some (i : Int)) none = xs.drop i := by
  unfold cutV
  rw [HT.sIx_none, HT.sIx_nat]
  have e : xs.drop (min i xs.length) = xs.drop i := by
    by_cases h : i ≤ xs.length
    · rw [Nat.min_eq_left h]
    · rw [Nat.min_eq_right (by omega), List.drop_of_length_le (Nat.le_refl _), List.drop_of_length_le (by omega)]
  rw [e]
  refine List.take_of_length_le ?_
  rw [List.length_drop]
  omega
theorem rev_ne {os : List Str} (nd : os.Nodup) (h : 2 ≤ os.length) : os ≠ os.reverse := by
  match os, nd, h with
  | x :: y :: r, nd, _ =>
    intro e
    rw [List.nodup_cons] at nd
    rw [List.reverse_cons] at e
    have q : ((y :: r).reverse ++ [x]).head? = some x := by rw [← e]; rfl
    have ne : (y :: r).reverse ≠ [] := by simp
    have q2 : (y :: r).reverse.head? = some x := by
      cases hz : (y :: r).reverse with
      | nil => exact absurd hz ne
      | cons a b =>
        rw [hz] at q
        exact q
    exact nd.1 (List.mem_reverse.mp (List.mem_of_mem_head? q2))
theorem okO_rev {os : List Str} (o : OkO os) : OkO os.reverse := by
  refine ⟨by rw [List.length_reverse]; exact o.least, by rw [List.length_reverse]; exact o.most, fun x hx => o.name x (List.mem_reverse.mp hx), (unlike_iff _).mpr ?_⟩
  exact (List.reverse_perm os).nodup_iff.mpr ((unlike_iff os).mp o.unl)
theorem okO_drop {os : List Str} (o : OkO os) (h : 2 ≤ os.length) : OkO (os.drop 1) :=
  ⟨by rw [List.length_drop]; omega, by rw [List.length_drop]; have := o.most; omega, fun x hx => o.name x (List.mem_of_mem_drop hx), (unlike_iff _).mpr (((unlike_iff os).mp o.unl).sublist (List.drop_sublist ..))⟩
def spUnj (K : PySem.W.Frag) : Sp := fun vs H Q _ => ∃ (o v : V) (os : List Str) (rs : List (Bal × Int)), vs = [o, v] ∧ Dt K H o (dN os) ∧ Dt K H v (dV rs) ∧ OkO os ∧ 2 ≤ os.length ∧ (∀ r ∈ rs, OkR os r) ∧ rs.length ≤ 8 ∧ ∀ H', Same H H' → Q (.bl true) H'
section
variable {P : Program} {w : World} {K : PySem.W.Frag} {mg : Str → Option Value} {base : Heap} {C CB CN : Addr}
theorem sc43 : FnScope ["_law_options_here", "_law_rows_here", "_law_row", "_law_full", "_law_told", "_law_second_one"] ["_law_options_here", "_law_rows_here"] (defScope s43) := ⟨rfl, rfl, rfl, by decide +kernel, rfl, by decide +kernel, by decide +kernel⟩
theorem ok_unj {f : Addr} {fd : FuncData} (F : Fun K "_law_unjoined" "_law_unjoined" s43 f fd) (B : Bt mg) (T : PolC K mg C) (mB : mg "BadPoll" = some (.ref CB)) (G : ExmC K CB CN) (Mk : MakP P w K mg base C CB) (M : MetX P w K mg base 8 C "joined" (spJoin K C CB)) : FnOk P w K mg base CX0 9 f fd ["_law_options_here", "_law_rows_here"] (spUnj K) := by
  refine F.ok sc43 (fun vs H Q E h => ?_) (fun cdv A outer s H vs Q E hr h => ?_)
  · obtain ⟨o, v, os, rs, rfl, _⟩ := h
    rfl
  · obtain ⟨o, v, os, rs, rfl, ho, hv, oo, l2, okr, l8, k⟩ := h
    refine ⟨_, pss_cons (ps_set (i := 2) sc43.nd rfl (Or.inl rfl) (pe_tup (pa_cons (pe_tup (pa_cons pe_str (pa_cons (pe_tup pa_nil) pa_nil))) (pa_cons pe_int pa_nil))))
      (pss_cons (ps_set (i := 3) sc43.nd rfl (Or.inl rfl) (e_pollM (K := K) (E := fun _ _ _ => False) Mk hr (by decide) passesNo (pa_cons (pv 0) (pa_cons (pe_op (o_cat (K := K)) (pv 1) (pe_op (o_repT (K := K)) (pe_tup (pa_cons (pv 2) pa_nil)) (pe_op op_sub pe_int (e_len (K := K) B.len (pv 1))))) pa_nil))))
      (pss_cons (ps_if (pt_cmpR (o_ne (K := K) hr) (pe_fld (pe_methS (E := fun _ _ _ _ => False) M hr (by decide) passNo (pv 3) (pa_cons (e_pollM1 (K := K) Mk hr (by decide) (pa_cons (pv 0) pa_nil)) pa_nil)) rfl) (pe_fld (pv 3) rfl) (nomark _)) (pss_one (ps_ret pe_bl)) pss_nil)
      (pss_cons (ps_set (i := 4) sc43.nd rfl (Or.inl rfl) (pe_lst pa_nil))
      (pss_cons (ps_for PassesOwn.never rfl (i_list (K := K) (pe_lst (pa_cons (e_pollM (K := K) (E := fun _ _ _ => False) Mk hr (by decide) passesNo (pa_cons (pv 0) (pa_cons (pe_tup (pa_cons (pv 2) pa_nil)) pa_nil)))
            (pa_cons (e_pollM1 (K := K) Mk hr (by decide) (pa_cons (e_revT (K := K) (pv 0)) pa_nil))
            (pa_cons (e_pollM1 (K := K) Mk hr (by decide) (pa_cons (pe_slice (o_slt (K := K)) (pv 0) (po_some pe_int) po_none) pa_nil)) pa_nil))))) (pg_name (i := 5) sc43.nd rfl (Or.inl rfl))
          (pss_one (ps_only (c := .ref CB) (tb := fun W => tDrop (tBM K "list" rAppend (tVar 4) (tCons (tMethS C "joined" (spJoin K C CB) (WE W) (tVar 3) (tCons (tVar 5) tNil)) tNil))) (ts := fun _ _ _ => tDrop (tBM K "list" rAppend (tVar 4) (tCons (tC (.str "poll")) tNil))) (Wout := fun _ _ _ _ => False) rfl rfl ⟨rfl, by decide, .inl mB⟩ takes0
            (fun W pn xe tk _ => pss_one (ps_expr (pe_bm PySem.F.plainAttrs_list PySem.F.slot_list_append PySem.F.type_list_append mt_append (pv 4) (pa_cons (pe_methS (E := WE W) M hr (by decide) (fun σ => passAt tk σ) (pv 3) (pa_cons (pv 5) pa_nil)) pa_nil))))
            (fun a oe cls d pn _ _ => pss_one (ps_expr (pe_bm PySem.F.plainAttrs_list PySem.F.slot_list_append PySem.F.type_list_append mt_append (pv 4) (pa_cons pe_str pa_nil)))))))
      (pss_one (ps_ret (pe_cmpR (o_eq (K := K) hr) (pv 4) (pe_op op_rep (pe_lst (pa_cons pe_str pa_nil)) pe_int) (nomark _)))))))), ?_⟩
    obtain ⟨av, xv, rfl, hav, hdv⟩ := dV_inv hv
    have lxv : xv.length = rs.length := by rw [hdv.length, List.length_map]
    refine ⟨Nat.le_of_ble_eq_true rfl, fun e he => ⟨Nat.le_of_ble_eq_true rfl, fun b hb => ⟨Nat.le_of_ble_eq_true rfl, fun t ht => ?_⟩⟩⟩
    have se : Same H (upd H e (.tup [])) := L2.Same.put he
    have he1 : upd H e (.tup []) e = some (.tup []) := upd_same
    obtain ⟨H1, eH1⟩ : ∃ H1, H1 = upd H e (.tup []) := ⟨_, rfl⟩
    rw [← eH1] at se he1 hb ht ⊢
    have sb : Same H1 (upd H1 b (.tup [.str "lets", .ref e])) := L2.Same.put hb
    have hb1 : upd H1 b (.tup [.str "lets", .ref e]) b = some (.tup [.str "lets", .ref e]) := upd_same
    obtain ⟨H2, eH2⟩ : ∃ H2, H2 = upd H1 b (.tup [.str "lets", .ref e]) := ⟨_, rfl⟩
    rw [← eH2] at sb hb1 ht ⊢
    have st : Same H2 (upd H2 t (.tup [.ref b, .int 1])) := L2.Same.put ht
    have ht1 : upd H2 t (.tup [.ref b, .int 1]) t = some (.tup [.ref b, .int 1]) := upd_same
    obtain ⟨H3, eH3⟩ : ∃ H3, H3 = upd H2 t (.tup [.ref b, .int 1]) := ⟨_, rfl⟩
    rw [← eH3] at st ht1 ⊢
    have s3 := (se.trans sb).trans st
    have hrow : Dt K H3 (.ref t) (dR (.lets [], 1)) := .new ht1 (.cons (.new (st _ _ hb1) (.cons (.str _) (.cons (.new (st _ _ (sb _ _ he1)) .nil) .nil))) (.cons (.int 1) .nil))
    have okrow : OkR os (.lets [], 1) := ⟨.lets (okN_of (fun x h => nomatch h) List.nodup_nil (by simp)), by show (1 : Int) ≤ 1; omega, by show (1 : Int) ≤ 1000000; omega⟩
    refine ⟨_, rfl, _, rfl, _, rfl, Nat.le_of_ble_eq_true rfl, fun q hq => ?_⟩
    have sq : Same H3 (upd H3 q (.tup [.ref t])) := L2.Same.put hq
    refine ⟨_, rfl, av, _, rfl, .inr (same_t (s3.trans sq) hav), 30, _, rfl, rfl, ⟨⟨q, _, [.ref t], rfl, rfl, SqT.of upd_same, by simp, by omega, by omega, by simp, fun p hp => ?_⟩⟩⟩
    obtain ⟨m, hm⟩ : ∃ m : Nat, m = 30 - rs.length := ⟨_, rfl⟩
    have em : ((30 : Int) - (xv.length : Int)).toNat = m := by omega
    rw [em, List.flatten_replicate_singleton] at *
    have sp : Same (upd H3 q (.tup [.ref t])) (upd (upd H3 q (.tup [.ref t])) p (.tup (List.replicate m (.ref t)))) := L2.Same.put hp
    have dp : Dt K (upd (upd H3 q (.tup [.ref t])) p (.tup (List.replicate m (.ref t)))) (.ref p) (.tuple (List.replicate m (dR (.lets [], 1)))) := .new upd_same (dts_rep (hrow.same (sq.trans sp)) m)
    have s4 := s3.trans (sq.trans sp)
    refine cat_d (hv.same s4) dp (by rw [List.length_map, List.length_replicate]; omega) fun vr H5 s5 hvr => ?_
    have eapp : PyData.tuple (rs.map dR ++ List.replicate m (dR (.lets [], 1))) = dV (rs ++ List.replicate m (.lets [], 1)) := by
      rw [dV_app, List.map_replicate]
    rw [eapp] at hvr
    obtain ⟨fr, hfr⟩ : ∃ fr : List (Bal × Int), fr = rs ++ List.replicate m (.lets [], 1) := ⟨_, rfl⟩
    rw [← hfr] at hvr
    have lfr : fr.length = 30 := by rw [hfr, List.length_append, List.length_replicate]; omega
    have okfr : ∀ r ∈ fr, OkR os r := fun r hr' => by
      rw [hfr] at hr'
      rcases List.mem_append.mp hr' with hr' | hr'
      · exact okr r hr'
      · rw [List.eq_of_mem_replicate hr']
        exact okrow
    have s05 := s4.trans s5
    refine ⟨⟨o, vr, os, fr, rfl, ho.same s05, oo, hvr, okfr, by omega, (fun _ vf H6 s6 hvf => ?_), (fun h => absurd h (by omega))⟩⟩
    obtain ⟨pf, dxf, of, rf, rfl, hpf, hof, hrf⟩ := hvf.ex
    have s06 := s05.trans s6
    -- joined with nothing
    refine ⟨_, rfl, pf, dxf, _, rfl, hpf, rfl, _, rfl, ⟨⟨o, os, rfl, ho.same s06, oo, fun v0 H7 s7 hv0 => ?_⟩⟩⟩
    have hvf7 := hvf.same s7
    refine ⟨.ref pf, v0, os, os, fr, [], rfl, hvf7, hv0, oo, oo, okfr, (fun x h => nomatch h), by omega, by simp, (fun _ _ vj H8 s8 hvj => ?_), fun h => (by
      rcases h with h | h
      · exact absurd rfl h
      · rw [lfr] at h
        exact absurd h (by simp))⟩
    obtain ⟨pj, dxj, oj, rj, rfl, hpj, hoj, hrj⟩ := hvj.ex
    rw [List.append_nil] at hrj
    have s68 := s7.trans s8
    refine ⟨pj, C, dxj, _, rj, rfl, hpj, T.cls, T.nV, rfl, _, rfl, pf, C, dxf, _, rf, rfl, s68 _ _ hpf, T.cls, T.nV, rfl, ?_⟩
    have gfr := (gd_dV oo okfr).fit (n := 5) (by decide)
    refine ne_d hrj (hrf.same s68) gfr gfr (fun _ => ⟨_, rfl, iteF ?_⟩) fun z => absurd rfl z
    refine ⟨Nat.le_of_ble_eq_true rfl, fun fl hfl => ?_⟩
    have sfl : Same H8 (upd H8 fl (.lst [])) := L2.Same.put hfl
    obtain ⟨H9, eH9⟩ : ∃ H9, H9 = upd H8 fl (.lst []) := ⟨_, rfl⟩
    have h9fl : H9 fl = some (.lst []) := by rw [eH9]; exact upd_same
    rw [← eH9] at sfl ⊢
    have s69 := s68.trans sfl
    have s09 := s06.trans s69
    -- the three polls
    refine ⟨_, rfl, _, rfl, Nat.le_of_ble_eq_true rfl, fun q2 hq2 => ?_⟩
    have sq2 : Same H9 (upd H9 q2 (.tup [.ref t])) := L2.Same.put hq2
    have s39 : Same H3 H9 := (((sq.trans sp).trans s5).trans s6).trans s69
    refine ⟨⟨o, .ref q2, os, [(.lets [], 1)], rfl, ho.same (s09.trans sq2), oo, .new upd_same (.cons (hrow.same (s39.trans sq2)) .nil), ?_, by simp, (fun _ v1 H10 s10 hv1 => ?_), fun h => absurd h (by simp)⟩⟩
    · intro x hx
      obtain rfl := List.mem_singleton.mp hx
      exact okrow
    have s910 := sq2.trans s10
    have s010 := s09.trans s910
    refine ⟨_, rfl, rev_t (ho.same s010) fun vrv H11 s11 hrv => ?_⟩
    rw [← List.map_reverse] at hrv
    refine ⟨⟨vrv, os.reverse, rfl, hrv, okO_rev oo, fun v2 H12 s12 hv2 => ?_⟩⟩
    have s1012 := s11.trans s12
    have s012 := s010.trans s1012
    obtain ⟨ao, rfl, hao⟩ := Dt.names_inv ho
    refine ⟨_, rfl, _, rfl, slt (same_t s012 hao) fun H13 p13 s13 hp13 => ?_⟩
    have ecut : cutV (os.map V.str) (some (1 : Int)) none = (os.drop 1).map V.str := by
      rw [List.map_drop]
      exact cutV_drop _ 1
    rw [ecut] at hp13
    refine ⟨⟨.ref p13, os.drop 1, rfl, Dt.names hp13, okO_drop oo l2, fun v3 H14 s14 hv3 => ?_⟩⟩
    have s1214 := s13.trans s14
    refine ⟨Nat.le_of_ble_eq_true rfl, fun L hL => ?_⟩
    have sL : Same H14 (upd H14 L (.lst [v1, v2, v3])) := L2.Same.put hL
    obtain ⟨H15, eH15⟩ : ∃ H15, H15 = upd H14 L (.lst [v1, v2, v3]) := ⟨_, rfl⟩
    have hL15 : H15 L = some (.lst [v1, v2, v3]) := by rw [eH15]; exact upd_same
    rw [← eH15] at sL ⊢
    have s1415 := s1214.trans sL
    have s915 : Same H9 H15 := s910.trans (s1012.trans s1415)
    have other : ∀ x ∈ [v1, v2, v3], ∃ os2 rs2, Pl K C H15 x os2 rs2 ∧ OkO os2 ∧ (∀ r ∈ rs2, OkR os2 r) ∧ rs2.length ≤ 100 ∧ (os ≠ os2 ∨ 30 < fr.length + rs2.length) := by
      intro x hx
      simp only [List.mem_cons, List.not_mem_nil, or_false] at hx
      rcases hx with rfl | rfl | rfl
      · refine ⟨os, [(.lets [], 1)], hv1.same (s1012.trans s1415), oo, ?_, by simp, .inr (by rw [lfr]; simp)⟩
        intro x hx
        obtain rfl := List.mem_singleton.mp hx
        exact okrow
      · exact ⟨os.reverse, [], hv2.same s1415, okO_rev oo, (fun x h => nomatch h), by simp, .inl (rev_ne ((unlike_iff os).mp oo.unl) l2)⟩
      · refine ⟨os.drop 1, [], hv3.same sL, okO_drop oo l2, (fun x h => nomatch h), by simp, .inl fun e => ?_⟩
        have q := congrArg List.length e
        rw [List.length_drop] at q
        omega
    have hvf15 := hvf.same (s69.trans s915)
    have nLf : L ≠ fl := fun e => by
      rw [e, (s910.trans (s1012.trans s1214)) _ _ h9fl] at hL
      cases hL
    have hfl8 : H8 fl = none := hfl
    refine ⟨L, rfl, ⟨_, SqL.of hL15⟩, for_list (xs := [v1, v2, v3]) (fun i σ Hx => (∃ y5, σ = [some (.ref ao), some (.ref av), some (.ref t), some (.ref pf), some (.ref fl), y5]) ∧ Same H8 Hx ∧ Hx fl = some (.lst (List.replicate i (.str "poll"))) ∧ Hx L = some (.lst [v1, v2, v3]) ∧ ∀ x ∈ [v1, v2, v3], ∃ os2 rs2, Pl K C Hx x os2 rs2 ∧ OkO os2 ∧ (∀ r ∈ rs2, OkR os2 r) ∧ rs2.length ≤ 100 ∧ (os ≠ os2 ∨ 30 < fr.length + rs2.length))
      ⟨⟨_, rfl⟩, sfl.trans s915, s915 _ _ h9fl, hL15, other⟩ (fun i σ Hx _ h => SqL.of h.2.2.2.1) ?_ ?_⟩
    · rintro i x σ Hx hi ⟨⟨y5, rfl⟩, sx, hxf, hxL, ox⟩
      have hil : i < 3 := (List.getElem?_eq_some_iff.mp hi).1
      obtain ⟨os2, rs2, hx2, oo2, ok2, l100, dif⟩ := ox x (List.mem_of_getElem? hi)
      have hpfx := sx _ _ (s68 _ _ hpf)
      refine ⟨_, rfl, .inl ⟨rfl, _, SqL.of hxf⟩, ?_⟩
      refine ⟨_, rfl, pf, dxf, _, rfl, hpfx, rfl, _, rfl, .ref pf, x, os, os2, fr, rs2, rfl, hvf.same (s68.trans sx), hx2, oo, oo2, okfr, ok2, by omega, l100, (fun e h => ?_), fun _ d H' s' => ?_⟩
      · rcases dif with z | z
        · exact absurd e z
        · omega
      · refine ⟨true, G.bb, (fun _ a ha => ?_), fun z => by cases z⟩
        have hf' := s' _ _ hxf
        refine ⟨_, rfl, .inl ⟨rfl, _, SqL.of hf'⟩, fl, _, _, rfl, rfl, hf', small1000 (by rw [List.length_replicate]; omega), ⟨_, rfl⟩, (sx.trans s').over hfl8, ?_, ?_, ?_⟩
        · rw [upd_same, ← List.replicate_succ']
        · rw [upd_ne nLf]
          exact s' _ _ hxL
        · intro y hy
          obtain ⟨os3, rs3, h3, k3⟩ := ox y hy
          obtain ⟨p3, dx3, o3, r3, rfl, hp3, ho3, hr3⟩ := (h3.same s').ex
          have tk : Tk K H' (upd H' fl (.lst (List.replicate i (.str "poll") ++ [.str "poll"]))) := Tk.upd (by rw [hf']; exact Soft.lst)
          have ne3 : p3 ≠ fl := fun e => by
            rw [e, hf'] at hp3
            cases hp3
          exact ⟨os3, rs3, ⟨p3, dx3, o3, r3, rfl, by rw [upd_ne ne3]; exact hp3, ho3.mono tk, hr3.mono tk⟩, k3⟩
    · rintro σ Hx ⟨⟨y5, rfl⟩, sx, hxf, hxL, ox⟩
      refine ⟨_, rfl, by decide, fun l hl => ?_⟩
      have sl : Same Hx (upd Hx l (.lst [.str "poll"])) := L2.Same.put hl
      refine ⟨l, 3, [.str "poll"], rfl, rfl, upd_same, by decide, by decide, by decide, fun p4 hp4 => ?_⟩
      have sp4 : Same (upd Hx l (.lst [.str "poll"])) (upd (upd Hx l (.lst [.str "poll"])) p4 (.lst (List.replicate (3 : Int).toNat [.str "poll"]).flatten)) := L2.Same.put hp4
      have dd : DpAll K (upd (upd Hx l (.lst [.str "poll"])) p4 (.lst (List.replicate (3 : Int).toNat [.str "poll"]).flatten)) (List.replicate 3 (.str "poll")) [.str "poll", .str "poll", .str "poll"] := (Dts.strs ["poll", "poll", "poll"]).dp
      refine eq_p (.lst (SqL.of ((sl.trans sp4) _ _ hxf)) dd) (.lst (SqL.of upd_same) dd) (by decide +kernel) (by decide +kernel) (fun _ => ?_) fun z => absurd rfl z
      exact k _ (((s06.trans s68).trans sx).trans (sl.trans sp4))
end
end VF
set_option maxHeartbeats 4000000
/-! ## BV. the plain law of the cut: the tiers of a cut ballot -/
namespace VF
open PySem L2
/-- heights told only by their order -/
theorem tiers_ord {os : List Str} {f g : Str → Int} (h : ∀ x ∈ os, ∀ y ∈ os, f x < f y ↔ g x < g y) : tiersOf os g = tiersOf os f := by
  have same : ∀ x ∈ os, ∀ y ∈ os, f x = f y → g x = g y := fun x hx y hy e => by
    rcases Int.lt_trichotomy (g x) (g y) with l | l | l
    · have := (h x hx y hy).mpr l
      omega
    · exact l
    · have := (h y hy x hx).mpr l
      omega
  have hφ : ∀ x ∈ os, g x = (match os.find? fun y => decide (f y = f x) with | some y => g y | none => 0) := fun x hx => by
    cases e : os.find? fun y => decide (f y = f x) with
    | none =>
      have q := List.find?_eq_none.mp e x hx
      simp at q
    | some y =>
      have q1 := List.mem_of_find?_eq_some e
      have q2 := List.find?_some e
      exact (same y q1 x hx (of_decide_eq_true q2)).symm
  refine tiers_iso (fun v => match os.find? fun y => decide (f y = v) with | some y => g y | none => 0) hφ fun x hx y hy l => ?_
  show (match os.find? fun z => decide (f z = f x) with | some z => g z | none => 0) < (match os.find? fun z => decide (f z = f y) with | some z => g z | none => 0)
  rw [← hφ x hx, ← hφ y hy]
  exact (h x hx y hy).mp l
/-- the height of a name, tiers told from above -/
def hRec : List (List Str) → Str → Nat
  | [], _ => 0
  | t :: r, x => if x ∈ t then r.length + 1 else hRec r x
theorem hRec_cons (t : List Str) (r : List (List Str)) (x : Str) : hRec (t :: r) x = if x ∈ t then r.length + 1 else hRec r x := rfl
theorem hRec_le : ∀ (ts : List (List Str)) (x : Str), hRec ts x ≤ ts.length
  | [], _ => Nat.le_refl _
  | t :: r, x => by
    have q := hRec_le r x
    unfold hRec
    rw [List.length_cons]
    split <;> omega
theorem hRec_at : ∀ (ts : List (List Str)) (x : Str) (j : Nat), ts.flatten.Nodup → x ∈ ts.getD j [] → hRec ts x = ts.length - j
  | [], x, j, _, h => by simp at h
  | t :: r, x, 0, _, h => by
    have h' : x ∈ t := h
    unfold hRec
    rw [if_pos h']
    rfl
  | t :: r, x, j + 1, nd, h => by
    rw [List.flatten_cons, List.nodup_append] at nd
    have h' : x ∈ r.getD j [] := h
    have hf : x ∈ r.flatten := by
      by_cases hj : j < r.length
      · rw [List.getD_eq_getElem?_getD, List.getElem?_eq_getElem hj] at h'
        exact List.mem_flatten.mpr ⟨_, List.getElem_mem hj, h'⟩
      · rw [List.getD_eq_getElem?_getD, List.getElem?_eq_none (by omega)] at h'
        cases h'
    have nt : x ∉ t := fun q => nd.2.2 x q x hf rfl
    unfold hRec
    rw [if_neg nt, hRec_at r x j nd.2.1 h', List.length_cons]
    omega
theorem hRec_none : ∀ (ts : List (List Str)) (x : Str), x ∉ ts.flatten → hRec ts x = 0
  | [], _, _ => rfl
  | t :: r, x, h => by
    rw [List.flatten_cons, List.mem_append, not_or] at h
    unfold hRec
    rw [if_neg h.1, hRec_none r x h.2]
theorem hOrd_at (c : Int) (ts : List (List Str)) : ∀ (i : Nat) (x : Str), (hOrd c ts i x = 0 ∧ ∀ j, j < i → x ∉ ts.getD j []) ∨ ∃ j, j < i ∧ x ∈ ts.getD j [] ∧ hOrd c ts i x = c - (j : Int)
  | 0, x => .inl ⟨rfl, fun j h => absurd h (Nat.not_lt_zero j)⟩
  | i + 1, x => by
    rw [hOrd_succ, putAll_const]
    by_cases h : x ∈ ts.getD i []
    · rw [if_pos h]
      exact .inr ⟨i, Nat.lt_succ_self i, h, rfl⟩
    · rw [if_neg h]
      rcases hOrd_at c ts i x with ⟨q1, q2⟩ | ⟨j, hj, q⟩
      · refine .inl ⟨q1, fun j hj => ?_⟩
        by_cases e : j = i
        · rw [e]
          exact h
        · exact q2 j (by omega)
      · exact .inr ⟨j, Nat.lt_succ_of_lt hj, q⟩
theorem hOrd_rec {ts : List (List Str)} (nd : ts.flatten.Nodup) (x : Str) : hOrd (ts.length : Int) ts ts.length x = (hRec ts x : Int) := by
  rcases hOrd_at (ts.length : Int) ts ts.length x with ⟨q1, q2⟩ | ⟨j, hj, q1, q2⟩
  · rw [q1, hRec_none ts x fun h => ?_]
    · rfl
    · obtain ⟨t, ht, hx⟩ := List.mem_flatten.mp h
      obtain ⟨j, hj, rfl⟩ := List.mem_iff_getElem.mp ht
      refine q2 j hj ?_
      rw [List.getD_eq_getElem?_getD, List.getElem?_eq_getElem hj]
      exact hx
  · rw [q2, hRec_at ts x j nd q1]
    omega
def cutT (ks : List Str) (ts : List (List Str)) : List (List Str) := (ts.map fun t => t.filter fun x => decide (x ∈ ks)).filter fun t => decide (t ≠ [])
theorem cutT_cons (ks : List Str) (t : List Str) (r : List (List Str)) : cutT ks (t :: r) = if (t.filter fun x => decide (x ∈ ks)) = [] then cutT ks r else (t.filter fun x => decide (x ∈ ks)) :: cutT ks r := by
  unfold cutT
  rw [List.map_cons]
  by_cases h : (t.filter fun x => decide (x ∈ ks)) = []
  · rw [if_pos h, List.filter_cons_of_neg (by rw [h]; simp)]
  · rw [if_neg h]
    exact List.filter_cons_of_pos (decide_eq_true h)
theorem cut_ord (ks : List Str) {x y : Str} (hx : x ∈ ks) (hy : y ∈ ks) : ∀ ts : List (List Str), hRec ts x < hRec ts y ↔ hRec (cutT ks ts) x < hRec (cutT ks ts) y
  | [] => Iff.rfl
  | t :: r => by
    have ih := cut_ord ks hx hy r
    have mx : x ∈ t.filter (fun x => decide (x ∈ ks)) ↔ x ∈ t := by simp [hx]
    have my : y ∈ t.filter (fun x => decide (x ∈ ks)) ↔ y ∈ t := by simp [hy]
    have lx := hRec_le r x
    have ly := hRec_le r y
    have cx := hRec_le (cutT ks r) x
    have cy := hRec_le (cutT ks r) y
    rw [cutT_cons]
    by_cases e : (t.filter fun x => decide (x ∈ ks)) = []
    · rw [if_pos e]
      have nx : x ∉ t := fun q => by
        rw [← mx, e] at q
        cases q
      have ny : y ∉ t := fun q => by
        rw [← my, e] at q
        cases q
      rw [hRec_cons, hRec_cons, if_neg nx, if_neg ny]
      exact ih
    · rw [if_neg e]
      rw [hRec_cons, hRec_cons, hRec_cons, hRec_cons]
      simp only [mx, my]
      by_cases px : x ∈ t
      · by_cases py : y ∈ t
        · rw [if_pos px, if_pos py, if_pos px, if_pos py]
          omega
        · rw [if_pos px, if_neg py, if_pos px, if_neg py]
          omega
      · by_cases py : y ∈ t
        · rw [if_neg px, if_pos py, if_neg px, if_pos py]
          omega
        · rw [if_neg px, if_neg py, if_neg px, if_neg py]
          exact ih
theorem steps_filter {os : List Str} {p : Str → Bool} (f : Str → Int) : (stepsUp os f).filter (fun s => decide ((os.filter fun x => decide (f x = s)).filter p ≠ [])) = stepsUp (os.filter p) f := by
  refine up_unique ((up_steps f os).sublist List.filter_sublist) (up_steps f _) fun z => ?_
  rw [List.mem_filter, mem_steps, mem_steps, List.mem_map, List.mem_map, decide_eq_true_iff]
  constructor
  · rintro ⟨_, h⟩
    obtain ⟨y, hy⟩ := List.exists_mem_of_ne_nil _ h
    have q := List.mem_filter.mp hy
    have q2 := List.mem_filter.mp q.1
    exact ⟨y, List.mem_filter.mpr ⟨q2.1, q.2⟩, of_decide_eq_true q2.2⟩
  · rintro ⟨y, hy, rfl⟩
    have q := List.mem_filter.mp hy
    refine ⟨⟨y, q.1, rfl⟩, fun e => ?_⟩
    have m : y ∈ (os.filter fun x => decide (f x = f y)).filter p := List.mem_filter.mpr ⟨List.mem_filter.mpr ⟨q.1, decide_eq_true rfl⟩, q.2⟩
    rw [e] at m
    cases m
/-- of fewer options: the tiers restricted, none empty -/
theorem tiers_sub (os : List Str) (p : Str → Bool) (f : Str → Int) : tiersOf (os.filter p) f = ((tiersOf os f).map fun t => t.filter p).filter fun t => decide (t ≠ []) := by
  unfold tiersOf
  rw [List.map_map, List.filter_map, ← steps_filter (os := os) (p := p) f, List.filter_reverse]
  have e : ((fun t : List Str => decide (t ≠ [])) ∘ ((fun t => t.filter p) ∘ fun s => os.filter fun x => decide (f x = s))) = fun s => decide ((os.filter fun x => decide (f x = s)).filter p ≠ []) := rfl
  rw [← List.filter_reverse, ← List.filter_reverse, e]
  refine List.map_congr_left fun s _ => ?_
  show (os.filter p).filter _ = (os.filter _).filter p
  rw [List.filter_filter, List.filter_filter]
  refine List.filter_congr fun x _ => ?_
  exact Bool.and_comm _ _
theorem mem_kept {os xs : List Str} {x : Str} : x ∈ keptO os xs ↔ x ∈ os ∧ x ∈ xs := by
  unfold keptO
  rw [List.mem_filter, decide_eq_true_iff]
theorem putAll_cut (ks : List Str) {x : Str} (hx : x ∈ ks) (f : Str → Int) : ∀ ps : List (Str × Int), putAll f (ps.filter fun p => decide (p.1 ∈ ks)) x = putAll f ps x := by
  refine snocInd rfl fun L a ih => ?_
  rw [List.filter_append, putAll_snoc]
  show _ = if x = a.1 then a.2 else putAll f L x
  by_cases h : a.1 ∈ ks
  · have e1 : [a].filter (fun p => decide (p.1 ∈ ks)) = [a] := by simp [h]
    rw [e1, putAll_snoc]
    show (if x = a.1 then a.2 else putAll f (L.filter _) x) = _
    rw [ih]
  · have e1 : [a].filter (fun p => decide (p.1 ∈ ks)) = [] := by simp [h]
    rw [e1, List.append_nil, if_neg (fun e => h (by rw [← e]; exact hx)), ih]
theorem heights_cut {os ks : List Str} {b : Bal} (ob : OkB os b) : ∀ x ∈ ks, ∀ y ∈ ks, heightOf b x < heightOf b y ↔ heightOf (cutB ks b) x < heightOf (cutB ks b) y := by
  intro x hx y hy
  have oc := okB_cut (ks := ks) ob
  cases b with
  | ord ts =>
    cases ob with
    | ord hN ne hm =>
      cases oc with
      | ord hN2 ne2 hm2 =>
        have n1 := (unlike_iff _).mp hN.unl
        have n2 := (unlike_iff _).mp hN2.unl
        show hOrd (ts.length : Int) ts ts.length x < hOrd (ts.length : Int) ts ts.length y ↔ hOrd ((cutT ks ts).length : Int) (cutT ks ts) (cutT ks ts).length x < hOrd ((cutT ks ts).length : Int) (cutT ks ts) (cutT ks ts).length y
        rw [hOrd_rec n1, hOrd_rec n1, hOrd_rec (ts := cutT ks ts) n2, hOrd_rec (ts := cutT ks ts) n2]
        have q := cut_ord ks hx hy ts
        omega
  | lets ns =>
    show putAll (fun _ => 0) (ns.map fun x => (x, (1 : Int))) x < putAll (fun _ => 0) (ns.map fun x => (x, (1 : Int))) y ↔ putAll (fun _ => 0) ((ns.filter fun x => decide (x ∈ ks)).map fun x => (x, (1 : Int))) x < putAll (fun _ => 0) ((ns.filter fun x => decide (x ∈ ks)).map fun x => (x, (1 : Int))) y
    rw [putAll_const, putAll_const, putAll_const, putAll_const]
    have mx : x ∈ ns.filter (fun x => decide (x ∈ ks)) ↔ x ∈ ns := by simp [hx]
    have my : y ∈ ns.filter (fun x => decide (x ∈ ks)) ↔ y ∈ ns := by simp [hy]
    simp only [mx, my]
  | marks ps =>
    show putAll (fun _ => 0) ps x < putAll (fun _ => 0) ps y ↔ putAll (fun _ => 0) (ps.filter fun p => decide (p.1 ∈ ks)) x < putAll (fun _ => 0) (ps.filter fun p => decide (p.1 ∈ ks)) y
    rw [putAll_cut ks hx, putAll_cut ks hy]
theorem tiers_cut {os xs : List Str} {b : Bal} (ob : OkB os b) : tiersOf (keptO os xs) (heightOf (cutB (keptO os xs) b)) = cutT xs (tiersOf os (heightOf b)) := by
  rw [tiers_ord (f := heightOf b) (heights_cut (ks := keptO os xs) ob)]
  exact tiers_sub os (fun x => decide (x ∈ xs)) (heightOf b)
theorem cutB_kept {os xs : List Str} {b : Bal} (ob : OkB os b) : cutB (keptO os xs) b = cutB xs b := by
  cases ob with
  | @ord ts hN ne hm =>
    have e : ∀ t ∈ ts, (t.filter fun x => decide (x ∈ keptO os xs)) = t.filter fun x => decide (x ∈ xs) := fun t ht => List.filter_congr fun x hx => by
      rw [decide_eq_decide, mem_kept]
      exact ⟨fun q => q.2, fun q => ⟨someOf_mem hN.some x (List.mem_flatten.mpr ⟨t, ht, hx⟩), q⟩⟩
    show Bal.ord _ = Bal.ord _
    rw [List.map_congr_left e]
  | @lets ns hN =>
    show Bal.lets _ = Bal.lets _
    congr 1
    exact List.filter_congr fun x hx => by
      rw [decide_eq_decide, mem_kept]
      exact ⟨fun q => q.2, fun q => ⟨someOf_mem hN.some x hx, q⟩⟩
  | @marks ps hN hm =>
    show Bal.marks _ = Bal.marks _
    congr 1
    exact List.filter_congr fun p hp => by
      rw [decide_eq_decide, mem_kept]
      exact ⟨fun q => q.2, fun q => ⟨someOf_mem hN.some p.1 (List.mem_map_of_mem hp), q⟩⟩
end VF
set_option maxHeartbeats 4000000
/-! ## BW. _law_cut_right -/
namespace VF
open PySem L2
abbrev s45 : Stmt := top 45
def spCR (K : PySem.W.Frag) (C : Addr) : List Code → Sp := fun g vs H Q _ => g = [] ∧ ∃ (v1 v : V) (os : List Str) (rs : List (Bal × Int)) (xs : List Str), vs = [v1, v] ∧ Pl K C H v1 os rs ∧ OkO os ∧ (∀ x ∈ rs, OkR os x) ∧ rs.length ≤ 30 ∧
  Dt K H v (dN xs) ∧ xs ≠ [] ∧ xs.Nodup ∧ (∀ x ∈ xs, x ∈ os) ∧ ∀ H', Same H H' → Q (.bl true) H'
abbrev N45 : List Str := ["_law_poll", "_law_some", "_law_found", "_law_kept", "_law_k", "_law_whole", "_law_due", "_law_word", "_law_tier"]
def sc45b : Scope := { kind := .function, names := [(".0", .local), ("_law_tier", .local), ("tuple", .globalImplicit), ("_law_some", .free)], isGenerator := false, isCoroutine := false }
section
variable {P : Program} {w : World} {K : PySem.W.Frag} {mg : Str → Option Value} {base : Heap} {C CB CN : Addr}
theorem sc45 : FnScope N45 ["_law_poll", "_law_some"] (defScope s45) := ⟨rfl, rfl, rfl, by decide +kernel, rfl, by decide +kernel, by decide +kernel⟩
theorem ok_cutRight {f : Addr} {fd : FuncData} (F : Fun K "_law_cut_right" "_law_cut_right" s45 f fd) (B : Bt mg) (hrep : mg "repr" = none) (T : PolC K mg C) (J : PolI K C) (Ul : C8.Cal P w K mg base 9 "_law_cut" (spLCut K C CB CN) [])
    (Ut : C8.Cal P w K mg base 2 "_law_tiers" (spTiers K) []) (Uq : C8.Cal P w K mg base 2 "tiers" (spTiers K) []) (Us : C8.Cal P w K mg base 1 "_law_slip_cut" (spCut K) []) : FnG P w K mg base CX0 10 f fd ["_law_poll", "_law_some"] (spCR K C) := by
  refine okG F sc45 (fun g vs H Q E h => ?_) (fun cdv g A outer s H vs Q E hr hg h => ?_)
  · obtain ⟨_, v1, v, os, rs, xs, rfl, _⟩ := h
    rfl
  · obtain ⟨rfl, v1, v, os, rs, xs, rfl, hl, oo, okr, l30, hx, xne, xnd, xsub, k⟩ := h
    refine ⟨_, pss_cons (ps_set (i := 2) sc45.nd rfl (Or.inl rfl) (C8.pe_c Ul hr (by decide) (by rfl) (pa_cons (pv 0) (pa_cons (pv 1) pa_nil))))
      (pss_cons (ps_set (i := 3) sc45.nd rfl (Or.inl rfl) (e_tuple (K := K) B.tyTup (pe_lc (own := [("_law_word", 7)]) rfl sc45.nd (i_tup (K := K) (pe_fld (pv 0) rfl)) (blkOk_by (N := N45) (sc := defScope s45) (by decide +kernel))
        (fun _ _ _ _ _ => pg_name (i := 7) sc45.nd rfl (Or.inl rfl)) (fun _ _ _ _ _ => pts_one (pt_cmpR (o_in (K := K)) (pv 7) (pv 1) (by rfl))) (fun _ _ _ _ _ => pv 7))))
      (pss_cons (ps_if (PW.pt (pw_or (pt_not (pt_val (e_isi (K := K) B.isi (pv 2) (C8.pe_gc (by rfl) T.gv)))) (pw_or (pt_cmpR (o_ne (K := K) hr) (pe_fld (pv 2) rfl) (pv 3) (nomark _)) (pw_or1 (pt_cmpR op_ne (e_len (K := K) B.len (pe_fld (pv 2) rfl)) (e_len (K := K) B.len (pe_fld (pv 0) rfl)) (nomark _))))))
        (pss_one (ps_ret pe_bl)) pss_nil)
      (pss_cons (ps_for PassesOwn.never rfl (pi_range1 (by rfl) B.rng (pa_cons (e_len (K := K) B.len (pe_fld (pv 2) rfl)) pa_nil)) (pg_name (i := 4) sc45.nd rfl (Or.inl rfl))
        (pss_cons (ps_set (i := 5) sc45.nd rfl (Or.inl rfl) (C8.pe_c Ut hr (by decide) (by rfl) (pa_cons (pe_fld (pv 0) rfl) (pa_cons (pe_ix ix_tup (pe_ix ix_tup (pe_fld (pv 0) rfl) (pv 4) (fun _ _ => rfl)) pe_int (fun _ _ => rfl)) pa_nil))))
        (pss_cons (ps_setLc (i := 6) (own := [("_law_tier", 8)]) rfl sc45.nd rfl rfl (sw_true rfl rfl rfl (by decide +kernel)) (i_tup (K := K) (pv 5)) (blkOk_by (N := N45) (sc := defScope s45) (by decide +kernel))
          (fun _ _ _ _ _ => pg_name (i := 8) sc45.nd rfl (Or.inl rfl)) (fun _ _ _ _ _ => pts_nil)
          (fun _ _ _ _ _ => e_tuple (K := K) B.tyTup (pe_lc (own := [("_law_word", 7)]) rfl sc45.nd (i_tup (K := K) (pv 8)) (blkOk_by (N := N45) (sc := relS sc45b (defScope s45)) (by decide +kernel))
            (fun _ _ _ _ _ => pg_name (i := 7) sc45.nd rfl (Or.inl rfl)) (fun _ _ _ _ _ => pts_one (pt_cmpR (o_in (K := K)) (pv 7) (pv 1) (by rfl))) (fun _ _ _ _ _ => pv 7))))
        (pss_cons (ps_if (pt_cmpR (o_ne (K := K) hr) (C8.pe_c Uq hr (by decide) (by rfl) (pa_cons (pv 3) (pa_cons (pe_ix ix_tup (pe_ix ix_tup (pe_fld (pv 2) rfl) (pv 4) (fun _ _ => rfl)) pe_int (fun _ _ => rfl)) pa_nil)))
            (e_tuple (K := K) B.tyTup (pe_lc (own := [("_law_tier", 8)]) rfl sc45.nd (i_list (K := K) (pv 6)) (blkOk_by (N := N45) (sc := defScope s45) (by decide +kernel))
              (fun _ _ _ _ _ => pg_name (i := 8) sc45.nd rfl (Or.inl rfl)) (fun _ _ _ _ _ => pts_one (pt_cmpR (o_ne (K := K) hr) (pv 8) (pe_tup pa_nil) (nomark _))) (fun _ _ _ _ _ => pv 8))) (nomark _))
          (pss_one (ps_ret pe_bl)) pss_nil)
        (pss_one (ps_if (pt_cmpR op_ne (e_repr (K := K) hrep hr hg (pe_ix ix_tup (pe_fld (pv 2) rfl) (pv 4) (fun _ _ => rfl)))
            (e_repr (K := K) hrep hr hg (pe_tup (pa_cons (C8.pe_c Us hr (by decide) (by rfl) (pa_cons (pe_ix ix_tup (pe_ix ix_tup (pe_fld (pv 0) rfl) (pv 4) (fun _ _ => rfl)) pe_int (fun _ _ => rfl)) (pa_cons (pv 1) pa_nil))) (pa_cons (pe_ix ix_tup (pe_ix ix_tup (pe_fld (pv 0) rfl) (pv 4) (fun _ _ => rfl)) pe_int (fun _ _ => rfl)) pa_nil)))) (nomark _))
          (pss_one (ps_ret pe_bl)) pss_nil))))))
      (pss_one (ps_ret pe_bl))))), ?_⟩
    have hl0 := hl
    obtain ⟨p, dx, o, r, rfl, hp, ho, hv⟩ := hl.ex
    obtain ⟨ax, rfl, hax⟩ := hx.names_inv
    have o6 := oo.most
    have xl : xs.length ≤ 6 := Nat.le_trans (nodup_le xs os xnd xsub) o6
    have xsok : ∀ x ∈ xs, PyData.strOk x = true := fun x h => oo.sok x (xsub x h)
    have inj : ∀ {ys : List Str}, xs.map PyData.str = ys.map PyData.str → ys = xs := fun e => (str_inj e).symm
    refine ⟨_, rfl, _, rfl, .ref p, .ref ax, os, rs, rfl, hl0, oo, okr, l30, .tup hx ((gd_dN xsok).mono (by decide)) (by rw [List.length_map]; omega) (fun x hx' => ?_) (fun h => ?_) (fun ys e _ _ h => ?_) (fun ys e _ _ i x hi hno => ?_) fun ys e _ _ _ _ v2 H1 s1 hl1 => ?_⟩
    · obtain ⟨y, hy, e⟩ := List.mem_map.mp hx'
      cases e
      have := oo.len8 x (xsub x hy)
      omega
    · exfalso
      rcases h with h | h
      · rw [List.map_eq_nil_iff] at h
        exact xne h
      · have q : (xs.map PyData.str).all isNameD = true := List.all_eq_true.mpr fun d hd => by
          obtain ⟨y, hy, rfl⟩ := List.mem_map.mp hd
          exact oo.name y (xsub y hy)
        rw [q] at h
        cases h
    · obtain rfl := inj e
      rw [(unlike_iff ys).mpr xnd] at h
      cases h
    · obtain rfl := inj e
      exact absurd (xsub x (List.mem_of_getElem? hi)) hno
    obtain rfl := inj e
    obtain ⟨ks, eks⟩ : ∃ ks, ks = keptO os ys := ⟨_, rfl⟩
    rw [← eks] at hl1
    have okk : OkO ks := by rw [eks]; exact okO_kept oo xne xsub
    have okr1 : ∀ x ∈ keptR ks rs, OkR ks x := okR_cut okr
    have l1 : (keptR ks rs).length = rs.length := by rw [keptR, List.length_map]
    obtain ⟨p1, dx1, o1, r1, rfl, hp1, ho1, hv1⟩ := hl1.ex
    obtain ⟨ao, rfl, hao⟩ := ho.names_inv
    have wo : Walk (Itt K ao) os.length (fun H => SqT K H ao (os.map V.str)) (YAt (os.map V.str)) := by simpa using walk_tup (K := K) (a := ao) (xs := os.map V.str)
    have los : os.length < sizeLine := Nat.lt_of_le_of_lt o6 (by decide)
    refine ⟨_, rfl, p, C, dx, _, _, rfl, s1 _ _ hp, T.cls, T.nO, rfl, ao, rfl, ⟨_, same_t s1 hao⟩, fun D hD => lc_d (K := K) os (fun x => if x ∈ ys then some (PyData.str x) else none) wo hD los (fun H2 s2 => same_t (s1.trans s2) hao) ?_ fun H2 zs s2 hz2 hd2 => ?_⟩
    · rintro j c x H3 H4 hc s3 ⟨rfl, hx3⟩
      obtain rfl := str_item hc hx3
      refine ⟨Same.refl _, fun A N hA hN => ⟨rfl, _, rfl, _, rfl, in_s (.inr (same_t (s1.trans s3) hax)) ⟨_, rfl, ?_⟩⟩⟩
      by_cases e : c ∈ ys
      · exact ifD e ⟨_, rfl, hA _ _ _ (if_pos e) (Same.refl _) (.str c)⟩
      · rw [decide_eq_false e]
        exact iteF (hN _ (if_neg e) (Same.refl _))
    rw [filterMap_if] at hd2
    refine tup_d hz2 hd2 fun vk H3 s3 hvk => ?_
    have hvk : Dt K H3 vk (dN ks) := by rw [eks]; exact hvk
    have s13 := s2.trans s3
    have s03 := s1.trans s13
    have hl13 := hl1.same s13
    obtain ⟨ar, xr, rfl, har, hdr⟩ := dV_inv hv
    obtain ⟨ar1, xr1, rfl, har1, hdr1⟩ := dV_inv hv1
    have lxr : xr.length = rs.length := by rw [hdr.length, List.length_map]
    have lxr1 : xr1.length = rs.length := by rw [hdr1.length, List.length_map, l1]
    refine ⟨_, rfl, isi_pl J hl13 ⟨_, rfl, iteF ?_⟩⟩
    refine ⟨_, rfl, p1, C, dx1, _, o1, rfl, s13 _ _ hp1, T.cls, T.nO, rfl, _, rfl, ?_⟩
    have gk := okk.gd.fit (n := 1) (by decide)
    refine ne_d (ho1.same s13) hvk gk gk (fun _ => ⟨_, rfl, iteF ?_⟩) fun z => absurd rfl z
    refine ⟨_, rfl, p1, C, dx1, _, _, rfl, s13 _ _ hp1, T.cls, T.nV, rfl, ar1, _, rfl, .inr (same_t s13 har1), _, rfl, p, C, dx, _, _, rfl, s03 _ _ hp, T.cls, T.nV, rfl, ar, _, rfl, .inr (same_t s03 har), rfl, _, rfl, ?_⟩
    rw [lxr, lxr1, decide_eq_true rfl]
    refine iteF ?_
    refine ⟨_, rfl, p1, C, dx1, _, _, rfl, s13 _ _ hp1, T.cls, T.nV, rfl, ar1, _, rfl, .inr (same_t s13 har1), _, rfl, by omega, by omega, ?_⟩
    rw [lxr1]
    refine for_range (lo := 0) (n := rs.length) (fun i σ Hx => (∃ y4 y5 y6, σ = [some (.ref p), some (.ref ax), some (.ref p1), some vk, y4, y5, y6, none, none]) ∧ Same H3 Hx) ⟨⟨_, _, _, rfl⟩, Same.refl _⟩ ?_ ?_
    · rintro i σ Hx hi ⟨⟨y4, y5, y6, rfl⟩, sx⟩
      have e0 : (0 : Int) + (i : Int) = (i : Int) := by omega
      rw [e0]
      have er : rs[i]? = some rs[i] := List.getElem?_eq_getElem hi
      have okb := (okr _ (List.getElem_mem hi)).bal
      have s0x := s03.trans sx
      have s1x := s13.trans sx
      -- the row of the whole poll
      obtain ⟨vr, hvr, hdvr⟩ := hdr.get' (i := i) (d := dR rs[i]) (by rw [List.getElem?_map, er]; rfl)
      obtain ⟨a2, yb, rfl, ha2, hyb⟩ := row_inv hdvr
      -- .. of the cut one
      have ek : (keptR ks rs)[i]? = some (cutB ks rs[i].1, rs[i].2) := by rw [keptR, List.getElem?_map, er]; rfl
      obtain ⟨vr1, hvr1, hdvr1⟩ := hdr1.get' (i := i) (d := dR (cutB ks rs[i].1, rs[i].2)) (by rw [List.getElem?_map, ek]; rfl)
      obtain ⟨a3, yb1, rfl, ha3, hyb1⟩ := row_inv hdvr1
      have okb1 : OkB ks (cutB ks rs[i].1) := okB_cut okb
      refine ⟨_, rfl, p, C, dx, _, _, rfl, s0x _ _ hp, T.cls, T.nO, rfl, _, rfl, p, C, dx, _, _, rfl, s0x _ _ hp, T.cls, T.nV, rfl, _, rfl, ar, xr, (i : Int), _, rfl, rfl, same_t s0x har, atI_nat hvr, a2, _, 0, _, rfl, rfl, same_t s0x ha2, rfl, ?_⟩
      refine ⟨.ref ao, yb, rs[i].1, os, rfl, ho.same s0x, hyb.same s0x, oo, okb, fun v5 H4 s4 hv5 => ?_⟩
      obtain ⟨ts, ets⟩ : ∃ ts, ts = tiersOf os (heightOf rs[i].1) := ⟨_, rfl⟩
      rw [← ets] at hv5
      have okt : OkB os (.ord ts) := by rw [ets]; exact ok_tiersOf oo
      have lt6 := okt.len6 oo
      obtain ⟨a5, zs5, rfl, ha5, hd5⟩ := hv5.tup_inv
      have lz5 : zs5.length = ts.length := by rw [hd5.length, List.length_map]
      have tmem : ∀ t ∈ ts, ∀ x ∈ t, x ∈ os := fun t ht x hx => (tiers_mem (f := heightOf rs[i].1) x).mp (by rw [← ets]; exact List.mem_flatten.mpr ⟨t, ht, hx⟩)
      have tnd : ts.flatten.Nodup := by rw [ets]; exact tiers_nodup ((unlike_iff os).mp oo.unl)
      have tsm : ∀ t ∈ ts, t.length < sizeLine := fun t ht => by
        have sub0 : t.Sublist ts.flatten := List.sublist_flatten_of_mem ht
        have := nodup_le _ os (tnd.sublist sub0) (tmem t ht)
        exact Nat.lt_of_le_of_lt (show t.length ≤ 6 by omega) (by decide)
      refine ⟨_, rfl, a5, rfl, ⟨_, ha5⟩, fun D hD => lc_m (K := K) ts (fun t => dN (t.filter fun x => decide (x ∈ ys))) (lz5 ▸ walk_tup (K := K) (a := a5) (xs := zs5)) hD (Nat.lt_of_le_of_lt lt6 (by decide)) (fun H5 s5 => same_t s5 ha5) ?_ fun H5 us s5 hu5 hdu => ?_⟩
      · rintro j t x H5 H6 htj s5 ⟨rfl, hx5⟩
        obtain ⟨d, hg1, hg2⟩ := hd5.get hx5
        rw [List.getElem?_map, htj] at hg1
        cases hg1
        obtain ⟨b, rfl, hb⟩ := hg2.names_inv
        have hsz := tsm t (List.mem_of_getElem? htj)
        have wb : Walk (Itt K b) t.length (fun H => SqT K H b (t.map V.str)) (YAt (t.map V.str)) := by simpa using walk_tup (K := K) (a := b) (xs := t.map V.str)
        refine ⟨Same.refl _, fun A hA => ⟨rfl, _, rfl, b, rfl, ⟨_, same_t s5 hb⟩, fun D2 hD2 => lc_d (K := K) t (fun x => if x ∈ ys then some (PyData.str x) else none) wb hD2 hsz (fun H3 s3 => same_t (s5.trans s3) hb) ?_ fun H3 us s3 hu3 hd3 => ?_⟩⟩
        · rintro j c x H3 H4 hc s3 ⟨rfl, hx⟩
          obtain rfl := str_item hc hx
          refine ⟨Same.refl _, fun A N hA hN => ⟨rfl, _, rfl, _, rfl, in_s (.inr (same_t (s0x.trans (s4.trans (s5.trans s3))) hax)) ⟨_, rfl, ?_⟩⟩⟩
          by_cases e : c ∈ ys
          · exact ifD e ⟨_, rfl, hA _ _ _ (if_pos e) (Same.refl _) (.str c)⟩
          · rw [decide_eq_false e]
            exact iteF (hN _ (if_neg e) (Same.refl _))
        · rw [filterMap_if] at hd3
          exact tup_d hu3 hd3 fun v' H5 s5 dv => hA _ _ (s3.trans s5) dv
      have s05 := s0x.trans (s4.trans s5)
      have s15 := s1x.trans (s4.trans s5)
      -- the first test
      refine ⟨_, rfl, _, rfl, p1, C, dx1, _, _, rfl, s15 _ _ hp1, T.cls, T.nV, rfl, _, rfl, ar1, xr1, (i : Int), _, rfl, rfl, same_t s15 har1, atI_nat hvr1, a3, _, 0, _, rfl, rfl, same_t s15 ha3, rfl, ?_⟩
      refine ⟨vk, yb1, cutB ks rs[i].1, ks, rfl, hvk.same (sx.trans (s4.trans s5)), hyb1.same s15, okk, okb1, fun v6 H6 s6 hv6 => ?_⟩
      have lus := hdu.length
      rw [List.length_map] at lus
      refine ⟨_, rfl, D, rfl, ⟨_, SqL.of (s6 _ _ hu5)⟩, fun D2 hD2 => lc_d (K := K) (ts.map fun t => t.filter fun x => decide (x ∈ ys)) (fun t => if t ≠ [] then some (dN t) else none) (by rw [List.length_map, ← lus]; exact walk_list (K := K) (a := D) (xs := us)) hD2 (by rw [List.length_map]; exact Nat.lt_of_le_of_lt lt6 (by decide)) (fun H2 s2 => s2.seq (SqL.of (s6 _ _ hu5))) ?_ fun H7 us2 s7 hu7 hd7 => ?_⟩
      · rintro j t x H2 H3 hti s2 ⟨rfl, hx⟩
        obtain ⟨d, hg1, hg2⟩ := hdu.get hx
        rw [List.getElem?_map] at hti hg1
        cases e0 : ts[j]? with
        | none =>
          rw [e0] at hti
          cases hti
        | some t0 =>
          rw [e0] at hti hg1
          cases hti
          cases hg1
          have sok : ∀ x ∈ t0.filter (fun x => decide (x ∈ ys)), PyData.strOk x = true := fun y hy => oo.sok y (tmem t0 (List.mem_of_getElem? e0) y (List.mem_filter.mp hy).1)
          refine ⟨Same.refl _, fun A N hA hN => ⟨rfl, _, rfl, Nat.zero_le _, fun q hq => ?_⟩⟩
          have sp := L2.Same.put (o := .tup []) hq
          refine ne_d ((hg2.same (s6.trans s2)).same sp) (.new upd_same .nil) ((gd_dN sok).fit (by decide)) ((gd_tup (n := 0) (ds := []) fun _ h => nomatch h).fit (by decide)) (fun z => ?_) fun z => ?_
          · rw [real_dN] at z
            have e1 : t0.filter (fun x => decide (x ∈ ys)) = [] := by
              cases e2 : t0.filter (fun x => decide (x ∈ ys)) with
              | nil => rfl
              | cons y r =>
                rw [e2] at z
                cases z
            exact ⟨_, rfl, iteF (hN _ (if_neg fun h => h e1) sp)⟩
          · have e1 : t0.filter (fun x => decide (x ∈ ys)) ≠ [] := fun e2 => z (congrArg (fun u => real (dN u)) e2)
            exact ⟨_, rfl, iteT ⟨_, rfl, hA _ _ _ (if_pos e1) sp ((hg2.same (s6.trans s2)).same sp)⟩⟩
      rw [filterMap_if (fun t : List Str => t ≠ []) dN] at hd7
      refine tup_d hu7 hd7 fun v8 H8 s8 hv8 => ?_
      have s68 := s7.trans s8
      have ecut : dT (tiersOf ks (heightOf (cutB ks rs[i].1))) = .tuple (((ts.map fun t => t.filter fun x => decide (x ∈ ys)).filter fun t => decide (t ≠ [])).map dN) := by
        rw [eks, tiers_cut okb, ← ets]
        rfl
      rw [ecut] at hv6
      have g8 : fit (.tuple (((ts.map fun t => t.filter fun x => decide (x ∈ ys)).filter fun t => decide (t ≠ [])).map dN)) = true := by
        refine Gd.fit (n := 2) (show Gd 2 (dT ((ts.map fun t => t.filter fun x => decide (x ∈ ys)).filter fun t => decide (t ≠ []))) from gd_dT fun t ht x hx => ?_) (by decide)
        obtain ⟨t0, ht0, rfl⟩ := List.mem_map.mp (List.mem_filter.mp ht).1
        exact oo.sok x (tmem t0 ht0 x (List.mem_filter.mp hx).1)
      refine ne_d (hv6.same s68) hv8 g8 g8 (fun _ => ⟨_, rfl, iteF ?_⟩) fun z => absurd rfl z
      have s08 := s05.trans (s6.trans s68)
      have s18 := s15.trans (s6.trans s68)
      -- the second test
      have rowOk : OkR ks (cutB ks rs[i].1, rs[i].2) := okr1 _ (List.mem_of_getElem? ek)
      refine ⟨_, rfl, p1, C, dx1, _, _, rfl, s18 _ _ hp1, T.cls, T.nV, rfl, _, rfl, ar1, xr1, (i : Int), _, rfl, rfl, same_t s18 har1, atI_nat hvr1, ⟨⟨_, _, rfl, hdvr1.same s18, rowOk.sm okk, big_line (Nat.le_trans (rowOk.sz okk) (by decide)), ?_, ?_⟩⟩⟩
      · exact Nat.le_trans (rowOk.gd okk).2 (by decide)
      refine ⟨_, rfl, p, C, dx, _, _, rfl, s08 _ _ hp, T.cls, T.nV, rfl, _, rfl, ar, xr, (i : Int), _, rfl, rfl, same_t s08 har, atI_nat hvr, a2, _, 0, _, rfl, rfl, same_t s08 ha2, rfl, ?_⟩
      refine ⟨_, rfl, yb, .ref ax, rs[i].1, ys, os, rfl, hyb.same s08, ⟨ax, rfl, .inr (same_t s08 hax)⟩, oo, okb, fun v9 H9 s9 hv9 => ?_⟩
      have s09 := s08.trans s9
      refine ⟨_, rfl, p, C, dx, _, _, rfl, s09 _ _ hp, T.cls, T.nV, rfl, _, rfl, ar, xr, (i : Int), _, rfl, rfl, same_t s09 har, atI_nat hvr, a2, _, 1, _, rfl, rfl, same_t s09 ha2, rfl, ?_⟩
      refine ⟨Nat.le_of_ble_eq_true rfl, fun t ht => ?_⟩
      have st := L2.Same.put (o := .tup [v9, .int rs[i].2]) ht
      rw [← cutB_kept okb, ← eks] at hv9
      refine ⟨⟨_, [dB (cutB ks rs[i].1), .int rs[i].2], rfl, .new upd_same (.cons (hv9.same st) (.cons (.int _) .nil)), rowOk.sm okk, big_line (Nat.le_trans (rowOk.sz okk) (by decide)), Nat.le_trans (rowOk.gd okk).2 (by decide), ?_⟩⟩
      refine ⟨rfl, _, rfl, ?_⟩
      have eq1 : (!decide (V.str (PyData.shown (real (.tuple [dB (cutB ks rs[i].1, rs[i].2).1, .int (cutB ks rs[i].1, rs[i].2).2]))) = V.str (PyData.shown (real (.tuple [dB (cutB ks rs[i].1), .int rs[i].2]))))) = false := by
        rw [decide_eq_true rfl]
        rfl
      rw [eq1]
      refine iteF ⟨⟨_, _, _, rfl⟩, sx.trans (((s4.trans s5).trans (s6.trans s68)).trans (s9.trans st))⟩
    · rintro σ Hx ⟨⟨y4, y5, y6, rfl⟩, sx⟩
      exact k _ (s03.trans sx)
end
end VF
set_option maxHeartbeats 4000000
/-! ## BX. o.m(k=e) -/
namespace VF
open PySem L2
/-- a method that may be called with its one argument by name -/
structure MetK (P : Program) (w : World) (K : PySem.W.Frag) (mg : Str → Option Value) (base : Heap) (k : Nat) (C : Addr) (m kw : Str) (sp : Sp) : Prop where
  ex : ∃ (f : Addr) (fd : FuncData) (ps : List Str), Cls K C ∧ Meth K C m f ∧ FnOk P w K mg base (L2.CX P w) k f fd ps sp ∧ KBn K fd ps 1 [kw] (fun us ws => us ++ ws) (fun vs zs => vs ++ zs)
structure MK1 (C : Addr) (m : Str) (x : V) (H1 : Hp) : Prop where
  ok : ∃ a dx fs, x = .ref a ∧ H1 a = some (.ins C dx fs) ∧ fs.lookup m = none
def tMethK (C : Addr) (m : Str) (sp : Sp) (ta te : TE) : TE := fun σ H Q => ta σ H fun x H1 => MK1 C m x H1 ∧ te σ H1 fun y H2 => sp [x, y] H2 Q fun _ _ _ => False
section
variable {X : Cx} {k j : Nat} {C : Addr} {m kw : Str} {sp : Sp} {pos apos kpos : Pos} {e o : Expr} {ta te : TE}
theorem pe_methK {pl : Sem Bool} (M : MetK X.prog X.w X.K X.mg X.base k C m kw sp) (hr : Room j X.A) (hk : k ≤ j) (he : PE X o ta) (ha : PE X e te)
    (hall : (backToKw pos (keywordEach [⟨some kw, e, kpos⟩] X.env)).all (·.1.isSome) = true := by rfl) (hks : (backToKw pos (keywordEach [⟨some kw, e, kpos⟩] X.env)).filterMap (·.1) = [kw] := by rfl)
    (hpl : ((backTo pos (starEach [] X.env)).any (·.1) || (backToKw pos (keywordEach [⟨some kw, e, kpos⟩] X.env)).any (·.1.isNone)) = false := by rfl)
    (ht : eval (.Call (.Attribute o m apos) [] [⟨some kw, e, kpos⟩] pos) X.env = (do
      let ov ← eval o X.env
      standAt apos.atName
      let (f, first) ← holding [ov] (getMethod ov m pl)
      callWith pos f first (backTo pos (starEach [] X.env)) (backToKw pos (keywordEach [⟨some kw, e, kpos⟩] X.env))) := by rfl) :
    PE X (.Call (.Attribute o m apos) [] [⟨some kw, e, kpos⟩] pos) (tMethK C m sp ta te) := by
  obtain ⟨f, fd, ps, c, hm, F, hb⟩ := M.ex
  refine ⟨fun pins s σ H Q I h => ?_⟩
  refine PySem.W.methodCall_KW (pl := pl) (thn (he.run pins s σ H _ I h) fun u s1 ⟨x, H1, I1, rx, ⟨a, dx, fs, ex, ea, l⟩, q⟩ => ?_) ht
  subst ex
  obtain rfl : u = Value.ref a := rx
  refine getmeth_ok I1 ea c hm l ?_
  refine PySem.W.callWith_KW0 (first := [.ref a]) (h₀ := X.base) I.ok.mod.kin hm.kp hall (thn ((pk_cons (nm := some kw) ha pk_nil).run pos pins s1 σ H1 (fun zs H2 => match zs with | [y] => sp [.ref a, y] H2 Q (fun _ _ _ => False) | _ => False) I1 q) fun ws s2 ⟨zs, H2, I2, rz, q2⟩ => ⟨I2.kIn, ?_⟩) hpl
  rw [hks]
  match zs, q2 with
  | [y], q2 => exact run_fnN (vs := [.ref a]) (zs := [y]) F (hr.mono hk) hb passesNo I2 (.cons rfl .nil) rz rfl rfl q2
end
end VF
set_option maxHeartbeats 4000000
/-! ## BZ. law -/
namespace VF
open PySem L2
abbrev s46 : Stmt := top 46
/-- what the law's answer leans on, no program in sight -/
structure Plain : Prop where
  cnt : ∀ (os : List Str) (rs rs2 : List (Bal × Int)), OkO os → (∀ r ∈ rs, OkR os r) → (∀ r ∈ rs2, OkR os r) → (cntD os rs = cntD os rs2 ↔ eqPoll os rs os rs2 = true)
  fitc : ∀ (os : List Str) (rs : List (Bal × Int)), OkO os → (∀ r ∈ rs, OkR os r) → fit (.list (cntD os rs)) = true
  swap : ∀ (os : List Str) (rs rs2 : List (Bal × Int)), OkO os → (∀ r ∈ rs, OkR os r) → (∀ r ∈ rs2, OkR os r) → eqPoll os (rs ++ rs2) os (rs2 ++ rs) = true
/-- equality of data, one answer for both cases -/
theorem eq_pb {K : PySem.W.Frag} {H : Hp} {x y : V} {d e : PyData} {Q : VK} {b : Bool} (hx : Dp K H x d) (hy : Dp K H y e) (fd : fit d = true) (fe : fit e = true) (hb : d = e ↔ b = true) (q : Q (.bl b) H) : EqR K x y H Q :=
  eq_p hx hy fd fe (fun z => by rw [hb.mp z] at q; exact q) fun z => by
    have : b = false := by
      cases b with
      | true => exact absurd (hb.mpr rfl) z
      | false => rfl
    rw [this] at q
    exact q
theorem reals_cnt (os : List Str) (rs : List (Bal × Int)) : reals (cntD os rs) = cntD os rs := by
  rw [reals_map]
  have e : ∀ d ∈ cntD os rs, real d = d := fun d hd => by
    unfold cntD at hd
    have q := (List.mergeSort_perm _ _).subset hd
    obtain ⟨p, _, rfl⟩ := List.mem_map.mp q
    exact real_dP p
  rw [List.map_congr_left e]
  exact List.map_id' _
theorem Sw.same0 {a : Addr} {H H' : Hp} (s : Sw a H H') (h : H a = none) : Same H H' := fun b u q => s b u (fun e => by rw [e, h] at q; cases q) q
theorem mem_cutV {xs : List V} {lo hi : Option Int} {x : V} (h : x ∈ cutV xs lo hi) : x ∈ xs := by
  unfold cutV at h
  exact List.mem_of_mem_drop (List.mem_of_mem_take h)
theorem okB_rev {os : List Str} {b : Bal} (h : OkB os b) : OkB os.reverse b := by
  have q : ∀ {xs : List Str}, OkN os xs → OkN os.reverse xs := fun {xs} o => ⟨someOf_all fun x hx => List.mem_reverse.mpr (someOf_mem o.some x hx), o.unl, o.most⟩
  cases h with
  | ord h ne m => exact .ord (q h) ne m
  | lets h => exact .lets (q h)
  | marks h m => exact .marks (q h) m
theorem okR_rev {os : List Str} {r : Bal × Int} (h : OkR os r) : OkR os.reverse r := ⟨okB_rev h.bal, h.lo, h.hi⟩
section
variable {K : PySem.W.Frag} {C CB CN : Addr} {H : Hp} {os : List Str} {rs : List (Bal × Int)} {Q : VK} {E : XK} {v : V}
theorem all_names {xs : List Str} (h : ∀ x ∈ xs, isNameS x = true) : (xs.map PyData.str).all isNameD = true := List.all_eq_true.mpr fun d hd => by
  obtain ⟨y, hy, rfl⟩ := List.mem_map.mp hd
  exact h y hy
/-- not all of them names -/
theorem only_bad1 {ds : List PyData} (h : Dt K H v (.tuple ds)) (g : Gd 7 (.tuple ds)) (l : ds.length ≤ 100) (st : ∀ x, PyData.str x ∈ ds → x.length ≤ 1000) (e : ds = [] ∨ ds.all isNameD = false) (b : Bad E CB H) : OnlyA K C CB CN H os rs Q E v := by
  have no : ∀ xs : List Str, ds = xs.map PyData.str → xs ≠ [] → (∀ x ∈ xs, isNameS x = true) → False := fun xs e1 ne hn => by
    rcases e with e | e
    · rw [e] at e1
      exact ne (List.map_eq_nil_iff.mp e1.symm)
    · rw [e1, all_names hn] at e
      cases e
  exact .tup h g l st (fun _ => b) (fun xs e1 ne hn _ => (no xs e1 ne hn).elim) (fun xs e1 hn _ i x hi _ _ => (no xs e1 (fun z => by rw [z] at hi; cases hi) hn).elim) fun xs e1 ne hn _ _ => (no xs e1 ne hn).elim
/-- names, one of them twice -/
theorem only_bad2 {xs : List Str} (h : Dt K H v (dN xs)) (g : Gd 7 (dN xs)) (l : xs.length ≤ 100) (ne : xs ≠ []) (hn : ∀ x ∈ xs, isNameS x = true) (nd : ¬ xs.Nodup) (b : Bad E CB H) : OnlyA K C CB CN H os rs Q E v := by
  have inj : ∀ {ys : List Str}, xs.map PyData.str = ys.map PyData.str → ys = xs := fun e => (str_inj e).symm
  refine .tup h g (by rw [List.length_map]; exact l) (fun x hx => ?_) (fun _ => b) (fun ys e _ _ _ => b) (fun ys e _ u => ?_) fun ys e _ _ u => ?_
  · obtain ⟨y, hy, e⟩ := List.mem_map.mp hx
    cases e
    have := name_len (hn x hy)
    omega
  · obtain rfl := inj e
    exact absurd ((unlike_iff _).mp u) nd
  · obtain rfl := inj e
    exact absurd ((unlike_iff _).mp u) nd
/-- names, of which the last one is none of the options -/
theorem only_none {xs : List Str} {y : Str} (h : Dt K H v (dN (xs ++ [y]))) (g : Gd 7 (dN (xs ++ [y]))) (l : xs.length ≤ 90) (hn : ∀ x ∈ xs, isNameS x = true) (hy : isNameS y = true) (nd : xs.Nodup) (sub : ∀ x ∈ xs, x ∈ os) (no : y ∉ os)
    (k : ∀ d H', Same H H' → H' d = some (.xd [("name", .str y)]) → E (.ref CN) (some d) H') : OnlyA K C CB CN H os rs Q E v := by
  have hn2 : ∀ x ∈ xs ++ [y], isNameS x = true := fun x hx => by
    rcases List.mem_append.mp hx with hx | hx
    · exact hn x hx
    · rw [List.mem_singleton.mp hx]
      exact hy
  have nd2 : (xs ++ [y]).Nodup := by
    rw [List.nodup_append]
    exact ⟨nd, by simp, fun a ha b hb e => no (by rw [← List.mem_singleton.mp hb, ← e]; exact sub a ha)⟩
  have inj : ∀ {ys : List Str}, (xs ++ [y]).map PyData.str = ys.map PyData.str → ys = xs ++ [y] := fun e => (str_inj e).symm
  refine .tup h g (by rw [List.length_map, List.length_append]; simp; omega) (fun x hx => ?_) (fun h => ?_) (fun ys e _ _ u => ?_) (fun ys e _ u i x hi hno hall d H' s hd => ?_) fun ys e _ _ u sb => ?_
  · obtain ⟨z, hz, e⟩ := List.mem_map.mp hx
    cases e
    have := name_len (hn2 x hz)
    omega
  · exfalso
    rcases h with h | h
    · simp at h
    · rw [all_names hn2] at h
      cases h
  · obtain rfl := inj e
    rw [(unlike_iff _).mpr nd2] at u
    cases u
  · obtain rfl := inj e
    have ex : x = y := by
      have q := List.mem_of_getElem? hi
      rcases List.mem_append.mp q with q | q
      · exact absurd (sub x q) hno
      · exact List.mem_singleton.mp q
    rw [ex] at hd
    exact k d H' s hd
  · obtain rfl := inj e
    exact absurd (sb y (by simp)) no
end
def words7 : List Str := ["zz", "zzz", "a", "b", "c", "d", "e"]
theorem strange_ex {os : List Str} (h : os.length ≤ 6) : ∃ x r, words7.filter (fun x => decide (x ∉ os)) = x :: r ∧ x ∉ os ∧ isNameS x = true := by
  cases e : words7.filter (fun x => decide (x ∉ os)) with
  | nil =>
    exfalso
    have q : ∀ x ∈ words7, x ∈ os := fun x hx => by
      by_cases m : x ∈ os
      · exact m
      · have : x ∈ words7.filter fun x => decide (x ∉ os) := List.mem_filter.mpr ⟨hx, decide_eq_true m⟩
        rw [e] at this
        cases this
    have := nodup_le words7 os (by decide +kernel) q
    have e7 : words7.length = 7 := rfl
    omega
  | cons x r =>
    have m : x ∈ words7.filter fun x => decide (x ∉ os) := by rw [e]; exact List.mem_cons_self ..
    have m2 := List.mem_filter.mp m
    refine ⟨x, r, rfl, of_decide_eq_true m2.2, ?_⟩
    have all : ∀ x ∈ words7, isNameS x = true := by decide +kernel
    exact all x m2.1
theorem two_len {a b : Str} (ha : a.length ≤ 2100000) (hb : b.length ≤ 2100000) : (PySem.listText [a, b]).length ≤ sizeLine := by
  have q := lstText_len [a, b]
  have e : PySem.piled [a, b] = a.length + 2 + (b.length + 2 + 0) := rfl
  rw [e] at q
  have e2 : sizeLine = 16777216 := sizeLine_eq
  omega
abbrev N46 : List Str := ["_law_script", "_law_cell", "_law_well_here", "_law_options_here", "_law_rows_here", "_law_later", "_law_polls", "_law_shown", "_law_due", "_law_both", "_law_some", "_law_odd", "_law_strange", "_law_word"]
def spLaw (K : PySem.W.Frag) : List Code → Sp := fun g vs H Q _ => g = [] ∧ ∃ (a : Addr) (ns : List Int), vs = [.ref a] ∧ SqL K H a (ns.map V.int) ∧ ns.length ≤ 1000 ∧ ∀ H', Same H H' → Q (.bl true) H'
section
variable {P : Program} {w : World} {K : PySem.W.Frag} {mg : Str → Option Value} {base : Heap} {C CB CN : Addr}
/-- all that law calls -/
structure LawC (P : Program) (w : World) (K : PySem.W.Frag) (mg : Str → Option Value) (base : Heap) (C CB CN : Addr) : Prop where
  B : Bt mg
  T : PolC K mg C
  J : PolI K C
  G : EqC P w K mg base C
  R : RpC P w K mg base C
  Mk : MakP P w K mg base C CB
  Mj : MetX P w K mg base 8 C "joined" (spJoin K C CB)
  Mw : MetK P w K mg base 8 C "joined" "other" (spJoin K C CB)
  cell : C8.Cal P w K mg base 1 "_law_cell_at" (spCell K) []
  well : C8.Cal P w K mg base 1 "_law_well" spWell []
  draw : C8.Cal P w K mg base 1 "_law_draw" spDraw []
  opts : C8.Cal P w K mg base 2 "_law_options" (spOptions K) []
  rows : C8.Cal P w K mg base 5 "_law_rows" (spLR K) []
  othr : C8.Cal P w K mg base 6 "_law_other" (spOther K) []
  cntd : CalG P w K mg base 3 "_law_counted" (spCnt K)
  unj : C8.Cal P w K mg base 9 "_law_unjoined" (spUnj K) []
  shuf : C8.Cal P w K mg base 2 "_law_shuffled" (spShuf K) []
  cutR : CalG P w K mg base 10 "_law_cut_right" (spCR K C)
  one : C8.Cal P w K mg base 2 "_law_one" spOne []
  cut : C8.Cal P w K mg base 9 "_law_cut" (spLCut K C CB CN) []
theorem sc46 : FnScope N46 ["_law_script"] (defScope s46) := ⟨rfl, rfl, rfl, by decide +kernel, rfl, by decide +kernel, by decide +kernel⟩
theorem ok_law {f : Addr} {fd : FuncData} (F : Fun K "law" "law" s46 f fd) (PL : Plain) (L : LawC P w K mg base C CB CN) : FnG P w K mg base CX0 11 f fd ["_law_script"] (spLaw K) := by
  have B := L.B
  have T := L.T
  refine okG F sc46 (fun g vs H Q E h => ?_) (fun cdv g A outer s H vs Q E hr hg h => ?_)
  · obtain ⟨_, a, ns, rfl, _⟩ := h
    rfl
  · obtain ⟨rfl, a, ns, rfl, ha, l1000, k⟩ := h
    refine ⟨_, pss_cons (ps_for PassesOwn.never rfl (i_list (K := K) (pe_op op_cat (pe_lst (pa_cons (C8.pe_c L.cell hr (by decide) (by rfl) (pa_cons (pv 0) (pa_cons pe_int pa_nil))) pa_nil)) (pe_slice (o_sll (K := K)) (pv 0) (po_some pe_int) (po_some pe_int)))) (pg_name (i := 1) sc46.nd rfl (Or.inl rfl))
        (pss_cons (ps_set (i := 2) sc46.nd rfl (Or.inl rfl) (C8.pe_c L.well hr (by decide) (by rfl) (pa_cons (pv 1) pa_nil)))
        (pss_cons (ps_set (i := 3) sc46.nd rfl (Or.inr rfl) (C8.pe_c L.opts hr (by decide) (by rfl) (pa_cons (pv 2) (pa_cons (pe_op op_add pe_int (C8.pe_c L.draw hr (by decide) (by rfl) (pa_cons (pv 2) (pa_cons pe_int pa_nil)))) pa_nil))))
        (pss_cons (ps_set (i := 4) sc46.nd rfl (Or.inl rfl) (C8.pe_c L.rows hr (by decide) (by rfl) (pa_cons (pv 2) (pa_cons (pv 3) (pa_cons pe_int pa_nil)))))
        (pss_cons (ps_set (i := 5) sc46.nd rfl (Or.inl rfl) (C8.pe_c L.othr hr (by decide) (by rfl) (pa_cons (pv 2) (pa_cons (pv 3) (pa_cons (pv 4) pa_nil)))))
        (pss_cons (ps_set (i := 6) sc46.nd rfl (Or.inl rfl) (pe_lst (pa_cons (e_pollM (K := K) (E := fun _ _ _ => False) L.Mk hr (by decide) passesNo (pa_cons (pv 3) (pa_cons (pv 4) pa_nil))) (pa_cons (e_pollM (K := K) (E := fun _ _ _ => False) L.Mk hr (by decide) passesNo (pa_cons (pv 3) (pa_cons (pv 5) pa_nil))) pa_nil))))
        (pss_cons (ps_set (i := 7) sc46.nd rfl (Or.inl rfl) (e_reprL (K := K) B.rpr L.R hr (by decide) hg (pv 6)))
        (pss_cons (ps_set (i := 8) sc46.nd rfl (Or.inl rfl) (pe_cmpR (o_eq (K := K) hr) (pe_cG L.cntd hr (by decide) hg (by rfl) (pa_cons (pv 3) (pa_cons (pv 4) pa_nil))) (pe_cG L.cntd hr (by decide) hg (by rfl) (pa_cons (pv 3) (pa_cons (pv 5) pa_nil))) (nomark _)))
        (pss_cons (ps_if (PW.pt (pw_or (pt_cmpR op_ne (pe_cmpR (o_peq (K := K) L.G L.J hr (by decide)) (pe_ix ix_list (pv 6) pe_int (fun _ _ => rfl)) (pe_ix ix_list (pv 6) pe_int (fun _ _ => rfl)) (nomark _)) (pv 8) (nomark _))
            (pw_or (pt_cmpR op_eq (pe_cmpR (o_pne (K := K) L.G L.J hr (by decide)) (pe_ix ix_list (pv 6) pe_int (fun _ _ => rfl)) (pe_ix ix_list (pv 6) pe_int (fun _ _ => rfl)) (nomark _)) (pv 8) (nomark _))
            (pw_or1 (pt_cmpR (o_peq (K := K) L.G L.J hr (by decide)) (pe_ix ix_list (pv 6) pe_int (fun _ _ => rfl)) (e_reprP (K := K) B.rpr L.R hr (by decide) hg (pe_ix ix_list (pv 6) pe_int (fun _ _ => rfl))) (nomark _))))))
          (pss_one (ps_ret pe_bl)) pss_nil)
        (pss_cons (ps_if (PW.pt (pw_or (pt_cmpR (o_peq (K := K) L.G L.J hr (by decide)) (pe_ix ix_list (pv 6) pe_int (fun _ _ => rfl)) (pe_tup (pa_cons (pv 3) (pa_cons (pv 4) pa_nil))) (nomark _))
            (pw_or (pt_cmpR (o_peq (K := K) L.G L.J hr (by decide)) (pe_ix ix_list (pv 6) pe_int (fun _ _ => rfl)) (e_pollM (K := K) (E := fun _ _ _ => False) L.Mk hr (by decide) passesNo (pa_cons (e_revT (K := K) (pv 3)) (pa_cons (pv 4) pa_nil))) (nomark _))
            (pw_or1 (pt_cmpR (o_pne (K := K) L.G L.J hr (by decide)) (pe_ix ix_list (pv 6) pe_int (fun _ _ => rfl)) (e_pollM (K := K) (E := fun _ _ _ => False) L.Mk hr (by decide) passesNo (pa_cons (pv 3) (pa_cons (pv 4) pa_nil))) (nomark _))))))
          (pss_one (ps_ret pe_bl)) pss_nil)
        (pss_cons (ps_set (i := 9) sc46.nd rfl (Or.inl rfl) (pe_methS (E := fun _ _ _ _ => False) L.Mj hr (by decide) passNo (pe_ix ix_list (pv 6) pe_int (fun _ _ => rfl)) (pa_cons (pe_ix ix_list (pv 6) pe_int (fun _ _ => rfl)) pa_nil)))
        (pss_cons (ps_if (PW.pt (pw_or (pt_cmpR (o_ne (K := K) hr) (pe_fld (pv 9) rfl) (pe_op (o_cat (K := K)) (pv 4) (pv 5)) (nomark _))
            (pw_or1 (pt_cmpR (o_pne (K := K) L.G L.J hr (by decide)) (pv 9) (pe_methK L.Mw hr (by decide) (pe_ix ix_list (pv 6) pe_int (fun _ _ => rfl)) (pe_ix ix_list (pv 6) pe_int (fun _ _ => rfl))) (nomark _)))))
          (pss_one (ps_ret pe_bl)) pss_nil)
        (pss_cons (ps_if (pt_not (pt_val (C8.pe_c L.unj hr (by decide) (by rfl) (pa_cons (pv 3) (pa_cons (pv 4) pa_nil))))) (pss_one (ps_ret pe_bl)) pss_nil)
        (pss_cons (ps_set (i := 10) sc46.nd rfl (Or.inl rfl) (e_tuple (K := K) B.tyTup (pe_slice (o_sll (K := K)) (C8.pe_c L.shuf hr (by decide) (by rfl) (pa_cons (pv 2) (pa_cons (pv 3) pa_nil))) po_none
            (po_some (pe_op op_add pe_int (C8.pe_c L.draw hr (by decide) (by rfl) (pa_cons (pv 2) (pa_cons (e_len (K := K) B.len (pv 3)) pa_nil))))))))
        (pss_cons (ps_if (PW.pt (pw_or (pt_not (pt_val (pe_cG L.cutR hr (by decide) hg (by rfl) (pa_cons (pe_ix ix_list (pv 6) pe_int (fun _ _ => rfl)) (pa_cons (pv 10) pa_nil))))) (pw_or1 (pt_not (pt_val (pe_cG L.cutR hr (by decide) hg (by rfl) (pa_cons (pv 9) (pa_cons (pv 10) pa_nil))))))))
          (pss_one (ps_ret pe_bl)) pss_nil)
        (pss_cons (ps_set (i := 11) sc46.nd rfl (Or.inl rfl) (C8.pe_c L.one hr (by decide) (by rfl) (pa_cons (pv 2) (pa_cons (pe_lst (pa_cons (pe_tup pa_nil) (pa_cons (e_list (K := K) B.tyLst (pv 10)) (pa_cons pe_non (pa_cons (pe_op (o_cat (K := K)) (pv 10) (pe_slice (o_slt (K := K)) (pv 10) po_none (po_some pe_int)))
            (pa_cons (pe_tup (pa_cons pe_str pa_nil)) (pa_cons (pe_tup (pa_cons pe_int pa_nil)) (pa_cons pe_str (pa_cons (pe_op (o_cat (K := K)) (pv 10) (pe_tup (pa_cons pe_str pa_nil))) pa_nil))))))))) pa_nil))))
        (pss_cons (ps_set (i := 12) sc46.nd rfl (Or.inl rfl) (pe_ix ix_list (pe_lc (own := [("_law_word", 13)]) rfl sc46.nd (i_tup (K := K) (pe_tup (pa_cons pe_str (pa_cons pe_str (pa_cons pe_str (pa_cons pe_str (pa_cons pe_str (pa_cons pe_str (pa_cons pe_str pa_nil))))))))) (blkOk_by (N := N46) (sc := defScope s46) (by decide +kernel))
            (fun _ _ _ _ _ => pg_name (i := 13) sc46.nd rfl (Or.inl rfl)) (fun _ _ _ _ _ => pts_one (pt_cmpR (o_nin (K := K)) (pv 13) (pv 3) (by rfl))) (fun _ _ _ _ _ => pv 13)) pe_int (fun _ _ => rfl)))
        (pss_cons (ps_if (PW.pt (pw_or (pt_cmpR (o_ne (K := K) hr) (C8.pe_c L.cut hr (by decide) (by rfl) (pa_cons (pe_ix ix_list (pv 6) pe_int (fun _ _ => rfl)) (pa_cons (pe_tup (pa_cons (pv 12) (pa_cons pe_str pa_nil))) pa_nil))) pe_str (nomark _))
            (pw_or1 (pt_cmpR (o_ne (K := K) hr) (C8.pe_c L.cut hr (by decide) (by rfl) (pa_cons (pe_ix ix_list (pv 6) pe_int (fun _ _ => rfl)) (pa_cons (pe_tup (pa_cons (pv 12) (pa_cons pe_non pa_nil))) pa_nil))) pe_str (nomark _)))))
          (pss_one (ps_ret pe_bl)) pss_nil)
        (pss_cons (ps_if (PW.pt (pw_or (pt_cmpR (o_ne (K := K) hr) (C8.pe_c L.cut hr (by decide) (by rfl) (pa_cons (pe_ix ix_list (pv 6) pe_int (fun _ _ => rfl)) (pa_cons (pv 11) pa_nil))) pe_str (nomark _))
            (pw_or1 (pt_cmpR (o_ne (K := K) hr) (C8.pe_c L.cut hr (by decide) (by rfl) (pa_cons (pe_ix ix_list (pv 6) pe_int (fun _ _ => rfl)) (pa_cons (pe_op (o_cat (K := K)) (pv 10) (pe_tup (pa_cons (pv 12) pa_nil))) pa_nil))) (pe_tup (pa_cons pe_str (pa_cons (pv 12) pa_nil))) (nomark _)))))
          (pss_one (ps_ret pe_bl)) pss_nil)
        (pss_one (ps_if (pt_cmpR op_ne (e_reprL (K := K) B.rpr L.R hr (by decide) hg (pv 6)) (pv 7) (nomark _)) (pss_one (ps_ret pe_bl)) pss_nil)))))))))))))))))))))
      (pss_one (ps_ret pe_bl)), ?_⟩
    refine ⟨_, rfl, a, ns, rfl, ha, fun i0 => ⟨Nat.le_of_ble_eq_true rfl, fun l1 hl1 => ?_⟩⟩
    have sl1 : Same H (upd H l1 (.lst [.int i0])) := L2.Same.put hl1
    refine ⟨_, rfl, _, rfl, _, rfl, sll (sl1.seq ha) fun H2 p2 s2 hp2 => ?_⟩
    have hl2 := s2 _ _ upd_same
    have lcut : (cutV (ns.map V.int) (some 1) (some 8)).length ≤ 1000 := by
      have q := cutV_length (ns.map V.int) (some 1) (some 8)
      rw [List.length_map] at q
      omega
    refine ⟨l1, p2, _, _, rfl, rfl, hl2, hp2, Nat.le_trans (Nat.add_le_add_left lcut _) (Nat.le_of_ble_eq_true rfl), fun Lc hLc => ?_⟩
    obtain ⟨cs, ecs⟩ : ∃ cs : List V, cs = [V.int i0] ++ cutV (ns.map V.int) (some 1) (some 8) := ⟨_, rfl⟩
    rw [← ecs]
    have csi : ∀ x ∈ cs, ∃ c : Int, x = .int c := fun x hx => by
      rw [ecs] at hx
      rcases List.mem_append.mp hx with hx | hx
      · exact ⟨i0, List.mem_singleton.mp hx⟩
      · obtain ⟨c, _, e⟩ := List.mem_map.mp (mem_cutV hx)
        exact ⟨c, e.symm⟩
    have sLc : Same H2 (upd H2 Lc (.lst cs)) := L2.Same.put hLc
    have s0L := sl1.trans (s2.trans sLc)
    have hcs : upd H2 Lc (.lst cs) Lc = some (.lst cs) := upd_same
    obtain ⟨HL, eHL⟩ : ∃ HL, HL = upd H2 Lc (.lst cs) := ⟨_, rfl⟩
    rw [← eHL] at s0L hcs ⊢
    refine ⟨Lc, rfl, ⟨_, SqL.of hcs⟩, for_list (xs := cs) (fun i σ Hx => (∃ y1 y2 y3 y4 y5 y6 y7 y8 y9 y10 y11 y12, σ = [some (.ref a), y1, y2, y3, y4, y5, y6, y7, y8, y9, y10, y11, y12, none]) ∧ Same HL Hx)
      ⟨⟨_, _, _, _, _, _, _, _, _, _, _, _, rfl⟩, Same.refl _⟩ (fun i σ Hx _ h => SqL.of (h.2 _ _ hcs)) ?_ ?_⟩
    rotate_left
    · rintro σ Hx ⟨⟨y1, y2, y3, y4, y5, y6, y7, y8, y9, y10, y11, y12, rfl⟩, sx⟩
      exact k _ (s0L.trans sx)
    rintro i x σ Hx hx ⟨⟨y1, y2, y3, y4, y5, y6, y7, y8, y9, y10, y11, y12, rfl⟩, sx⟩
    obtain ⟨c, rfl⟩ := csi x (List.mem_of_getElem? hx)
    refine ⟨_, rfl, c, rfl, fun wl H1 s1 hwl w1 => ?_⟩
    -- the options
    refine ⟨_, rfl, _, rfl, wl, 5, 0, rfl, w1, by omega, by decide, by decide, fun d H2 d0 d5 s2 w2 => ?_⟩
    refine ⟨2, d, rfl, rfl, wl, 2 + d, 1, rfl, w2, by omega, by omega, by omega, fun vo os H3 s3 w3 ho oo lo => ?_⟩
    obtain ⟨ao, rfl, hao⟩ := ho.names_inv
    have o2 : 2 ≤ os.length := by omega
    have ond := (unlike_iff os).mp oo.unl
    have o6 := oo.most
    -- the rows
    refine ⟨_, rfl, _, rfl, wl, ao, 8, 61, os, rfl, w3, hao, oo, by omega, by decide, by decide, fun vr rs H4 s4 w4 hr4 okr lr => ?_⟩
    have l8 : rs.length ≤ 8 := by omega
    have hao4 := (s4.tk w3.soft).t _ _ hao
    refine ⟨_, rfl, _, rfl, _, rfl, wl, ao, vr, 3061, os, rs, rfl, w4, hao4, oo, hr4, okr, l8, by omega, fun vl rs2 H5 s5 w5 hl5 ok2 l16 => ?_⟩
    have hr5 := s5.dt w4 hr4
    have ho5 : Dt K H5 (.ref ao) (dN os) := Dt.names ((s5.tk w4.soft).t _ _ hao4)
    have sw5 : Sw wl Hx H5 := (Sw.of s1).trans ((s2.trans s3).trans (s4.trans s5))
    -- the two polls
    refine ⟨_, rfl, _, rfl, ⟨⟨.ref ao, vr, os, rs, rfl, ho5, oo, hr5, okr, by omega, (fun _ v1 H6 s6 hv1 => ?_), fun h => absurd h (by omega)⟩⟩⟩
    refine ⟨_, rfl, _, rfl, ⟨⟨.ref ao, vl, os, rs2, rfl, ho5.same s6, oo, hl5.same s6, ok2, by omega, (fun _ v2 H7 s7 hv2 => ?_), fun h => absurd h (by omega)⟩⟩⟩
    obtain ⟨p1, dx1, o1, r1, rfl, hp1, ho1, hr1⟩ := hv1.ex
    obtain ⟨p2, dx2, o2', r2, rfl, hp2, ho2, hr2⟩ := hv2.ex
    refine ⟨Nat.le_of_ble_eq_true rfl, fun Lp hLp => ?_⟩
    have sLp : Same H7 (upd H7 Lp (.lst [.ref p1, .ref p2])) := L2.Same.put hLp
    have hLp8 : upd H7 Lp (.lst [.ref p1, .ref p2]) Lp = some (.lst [.ref p1, .ref p2]) := upd_same
    obtain ⟨H8, eH8⟩ : ∃ H8, H8 = upd H7 Lp (.lst [.ref p1, .ref p2]) := ⟨_, rfl⟩
    rw [← eH8] at sLp hLp8 ⊢
    have s58 := s6.trans (s7.trans sLp)
    have w8 := w5.same s58
    have sw8 : Sw wl Hx H8 := sw5.trans (Sw.of s58)
    have P1 : Pl K C H8 (.ref p1) os rs := hv1.same (s7.trans sLp)
    have P2 : Pl K C H8 (.ref p2) os rs2 := hv2.same sLp
    have ho8 := ho5.same s58
    have hr8 := hr5.same s58
    have hl8 := hl5.same s58
    have hao8 : SqT K H8 ao (os.map V.str) := by
      obtain ⟨z, e, q⟩ := ho8.names_inv
      cases e
      exact q
    -- shown
    have lt1 : (showP os rs).length ≤ 2100000 := showP_len oo okr (by omega)
    have lt2 : (showP os rs2).length ≤ 2100000 := showP_len oo ok2 (by omega)
    have shown : ∀ {Hy : Hp}, Same H8 Hy → PySem.Paired (fun p t => ShP K C Hy (.ref p) t) [p1, p2] [showP os rs, showP os rs2] := fun {Hy} sy =>
      .cons ⟨os, rs, P1.same sy, oo, okr, by omega, rfl⟩ (.cons ⟨os, rs2, P2.same sy, oo, ok2, by omega, rfl⟩ .nil)
    refine ⟨_, rfl, ⟨⟨Lp, [p1, p2], [showP os rs, showP os rs2], rfl, hLp8, by simp, shown (Same.refl _), two_len lt1 lt2, ?_⟩⟩⟩
    -- due
    refine ⟨_, rfl, _, rfl, rfl, .ref ao, vr, os, rs, rfl, ho8, hr8, oo, okr, by omega, fun c1 zs1 H9 s9 hc1 dc1 => ?_⟩
    refine ⟨_, rfl, _, rfl, rfl, .ref ao, vl, os, rs2, rfl, ho8.same s9, hl8.same s9, oo, ok2, by omega, fun c2 zs2 H10 s10 hc2 dc2 => ?_⟩
    have dp1 := (dc1.same s10).dp
    have dp2 := dc2.dp
    rw [reals_cnt] at dp1 dp2
    refine eq_pb (.lst (SqL.of (s10 _ _ hc1)) dp1) (.lst (SqL.of hc2) dp2) (PL.fitc os rs oo okr) (PL.fitc os rs2 oo ok2) (b := eqPoll os rs os rs2) ?_ ?_
    · rw [← PL.cnt os rs rs2 oo okr ok2]
      exact ⟨fun q => by injection q, fun q => by rw [q]⟩
    have s810 := s9.trans s10
    have s510 := s58.trans s810
    have P1' := P1.same s810
    have P2' := P2.same s810
    have hLp10 := s810 _ _ hLp8
    have hr10 := hr8.same s810
    have ho10 := ho8.same s810
    have sym : eqPoll os rs2 os rs = eqPoll os rs os rs2 := by
      rw [Bool.eq_iff_iff, ← PL.cnt os rs2 rs oo ok2 okr, ← PL.cnt os rs rs2 oo okr ok2]
      exact ⟨Eq.symm, Eq.symm⟩
    have self : eqPoll os rs os rs = true := (PL.cnt os rs rs oo okr okr).mp rfl
    -- the first test
    refine ⟨_, rfl, Lp, _, 0, .ref p1, rfl, rfl, SqL.of hLp10, rfl, _, rfl, Lp, _, 1, .ref p2, rfl, rfl, SqL.of hLp10, rfl, ?_⟩
    refine ⟨⟨.ref p1, .ref p2, os, rs, rfl, P1', oo, okr, by omega, .inr ⟨os, rs2, P2', oo, ok2, by omega, fun H11 s11 => ⟨_, rfl, ?_⟩⟩⟩⟩
    refine ⟨_, rfl, rfl, _, rfl, ?_⟩
    rw [decide_eq_true rfl]
    refine iteF ?_
    have hLp11 := s11 _ _ hLp10
    refine ⟨_, rfl, Lp, _, 1, .ref p2, rfl, rfl, SqL.of hLp11, rfl, _, rfl, Lp, _, 0, .ref p1, rfl, rfl, SqL.of hLp11, rfl, ?_⟩
    refine ⟨⟨.ref p2, .ref p1, os, rs2, rfl, P2'.same s11, oo, ok2, by omega, .inr ⟨os, rs, P1'.same s11, oo, okr, by omega, fun H12 s12 => ⟨_, rfl, ?_⟩⟩⟩⟩
    refine ⟨_, rfl, rfl, _, rfl, ?_⟩
    have eB : decide (V.bl (!eqPoll os rs2 os rs) = V.bl (eqPoll os rs os rs2)) = false := decide_eq_false fun q => by
      have q2 := V.bl.inj q
      rw [sym] at q2
      revert q2
      cases eqPoll os rs os rs2 <;> simp
    rw [eB]
    refine iteF ?_
    have s1012 := s11.trans s12
    have hLp12 := s1012 _ _ hLp10
    refine ⟨_, rfl, Lp, _, 0, .ref p1, rfl, rfl, SqL.of hLp12, rfl, _, rfl, Lp, _, 0, .ref p1, rfl, rfl, SqL.of hLp12, rfl, ⟨⟨.ref p1, showP os rs, rfl, ⟨os, rs, P1'.same s1012, oo, okr, by omega, rfl⟩, ?_⟩⟩⟩
    refine ⟨⟨.ref p1, .str (showP os rs), os, rs, rfl, P1'.same s1012, oo, okr, by omega, .inl ⟨.str (showP os rs), .str _, .inl rfl, fun H13 s13 => ⟨_, rfl, ⟨_, rfl, iteF ?_⟩⟩⟩⟩⟩
    have s1013 := s1012.trans s13
    have hLp13 := s1013 _ _ hLp10
    -- the second test
    refine ⟨_, rfl, Lp, _, 0, .ref p1, rfl, rfl, SqL.of hLp13, rfl, _, rfl, _, rfl, Nat.le_of_ble_eq_true rfl, fun t1 ht1 => ?_⟩
    have st1 : Same H13 (upd H13 t1 (.tup [.ref ao, vr])) := L2.Same.put ht1
    have ht1' : upd H13 t1 (.tup [.ref ao, vr]) t1 = some (.tup [.ref ao, vr]) := upd_same
    obtain ⟨H14, eH14⟩ : ∃ H14, H14 = upd H13 t1 (.tup [.ref ao, vr]) := ⟨_, rfl⟩
    rw [← eH14] at st1 ht1' ⊢
    have s1014 := s1013.trans st1
    refine ⟨⟨.ref p1, .ref t1, os, rs, rfl, P1'.same s1014, oo, okr, by omega, .inl ⟨.tuple [dN os, dV rs], .new ht1' (.cons (ho10.same s1014) (.cons (hr10.same s1014) .nil)), .inr rfl, fun H15 s15 => ⟨_, rfl, ⟨_, rfl, iteF ?_⟩⟩⟩⟩⟩
    have s1015 := s1014.trans s15
    have hLp15 := s1015 _ _ hLp10
    refine ⟨_, rfl, Lp, _, 0, .ref p1, rfl, rfl, SqL.of hLp15, rfl, _, rfl, rev_t (ho10.same s1015) fun vrv H16 s16 hrv => ?_⟩
    rw [← List.map_reverse] at hrv
    have s1016 := s1015.trans s16
    have okrev : ∀ r ∈ rs, OkR os.reverse r := fun r hr' => okR_rev (okr r hr')
    refine ⟨_, rfl, ⟨⟨vrv, vr, os.reverse, rs, rfl, hrv, okO_rev oo, hr10.same s1016, okrev, by omega, (fun _ v3 H17 s17 hv3 => ?_), fun h => absurd h (by omega)⟩⟩⟩
    have s1017 := s1016.trans s17
    have erev : eqPoll os rs os.reverse rs = false := by
      unfold eqPoll
      rw [decide_eq_false (rev_ne ond o2)]
      rfl
    refine ⟨⟨.ref p1, v3, os, rs, rfl, P1'.same s1017, oo, okr, by omega, .inr ⟨os.reverse, rs, hv3, okO_rev oo, okrev, by omega, fun H18 s18 => ⟨_, rfl, ⟨_, rfl, ?_⟩⟩⟩⟩⟩
    rw [erev]
    refine iteF ?_
    have s1018 := s1017.trans s18
    have hLp18 := s1018 _ _ hLp10
    refine ⟨_, rfl, Lp, _, 0, .ref p1, rfl, rfl, SqL.of hLp18, rfl, _, rfl, _, rfl, ⟨⟨.ref ao, vr, os, rs, rfl, ho10.same s1018, oo, hr10.same s1018, okr, by omega, (fun _ v4 H19 s19 hv4 => ?_), fun h => absurd h (by omega)⟩⟩⟩
    have s1019 := s1018.trans s19
    refine ⟨⟨.ref p1, v4, os, rs, rfl, P1'.same s1019, oo, okr, by omega, .inr ⟨os, rs, hv4, oo, okr, by omega, fun H20 s20 => ⟨_, rfl, ⟨_, rfl, ?_⟩⟩⟩⟩⟩
    rw [self]
    refine iteF ?_
    have s1020 := s1019.trans s20
    have hLp20 := s1020 _ _ hLp10
    have P1a := P1'.same s1020
    have P2a := P2'.same s1020
    -- joined
    have hp1a : H20 p1 = some (.ins C dx1 [("options", o1), ("voices", r1)]) := (s7.trans (sLp.trans (s810.trans s1020))) _ _ hp1
    have hp2a : H20 p2 = some (.ins C dx2 [("options", o2'), ("voices", r2)]) := (sLp.trans (s810.trans s1020)) _ _ hp2
    refine ⟨_, rfl, Lp, _, 0, .ref p1, rfl, rfl, SqL.of hLp20, rfl, p1, dx1, _, rfl, hp1a, rfl, _, rfl, Lp, _, 1, .ref p2, rfl, rfl, SqL.of hLp20, rfl, ?_⟩
    refine ⟨.ref p1, .ref p2, os, os, rs, rs2, rfl, P1a, P2a, oo, oo, okr, ok2, by omega, by omega, (fun _ _ vb H21 s21 hvb => ?_), fun h => (by
      rcases h with h | h
      · exact absurd rfl h
      · omega)⟩
    obtain ⟨pb, dxb, ob, rb, rfl, hpb, hob, hrb⟩ := hvb.ex
    have s1021 := s1020.trans s21
    have hLp21 := s1021 _ _ hLp10
    have okb : ∀ r ∈ rs ++ rs2, OkR os r := fun r hr' => by
      rcases List.mem_append.mp hr' with h | h
      · exact okr r h
      · exact ok2 r h
    have okb' : ∀ r ∈ rs2 ++ rs, OkR os r := fun r hr' => by
      rcases List.mem_append.mp hr' with h | h
      · exact ok2 r h
      · exact okr r h
    have lb : (rs ++ rs2).length ≤ 24 := by rw [List.length_append]; omega
    have lb' : (rs2 ++ rs).length ≤ 24 := by rw [List.length_append]; omega
    refine ⟨_, rfl, pb, C, dxb, _, rb, rfl, hpb, T.cls, T.nV, rfl, _, rfl, _, rfl, ?_⟩
    have hl10 := hl8.same s810
    refine cat_d (d := rs.map dR) (e := rs2.map dR) (hr10.same s1021) (hl10.same s1021) (by rw [List.length_map, List.length_map]; omega) fun vc H22 s22 hvc => ?_
    rw [← dV_app] at hvc
    have s1022 := s1021.trans s22
    have gb := (gd_dV oo okb).fit (n := 5) (by decide)
    refine ne_d (hrb.same s22) hvc gb gb (fun _ => ⟨_, rfl, iteF ?_⟩) fun z => absurd rfl z
    have hLp22 := s1022 _ _ hLp10
    refine ⟨_, rfl, _, rfl, Lp, _, 1, .ref p2, rfl, rfl, SqL.of hLp22, rfl, ⟨⟨p2, dx2, _, rfl, (s21.trans s22) _ _ hp2a, rfl⟩⟩, _, rfl, Lp, _, 0, .ref p1, rfl, rfl, SqL.of hLp22, rfl, ?_⟩
    refine ⟨.ref p2, .ref p1, os, os, rs2, rs, rfl, P2'.same s1022, P1'.same s1022, oo, oo, ok2, okr, by omega, by omega, (fun _ _ vb2 H23 s23 hvb2 => ?_), fun h => (by
      rcases h with h | h
      · exact absurd rfl h
      · omega)⟩
    refine ⟨⟨.ref pb, vb2, os, rs ++ rs2, rfl, hvb.same (s22.trans s23), oo, okb, by omega, .inr ⟨os, rs2 ++ rs, hvb2, oo, okb', by omega, fun H24 s24 => ⟨_, rfl, ⟨_, rfl, ?_⟩⟩⟩⟩⟩
    rw [PL.swap os rs rs2 oo okr ok2]
    refine iteF ?_
    have s2124 := s22.trans (s23.trans s24)
    have s1024 := s1021.trans s2124
    -- what can't be joined
    refine ⟨_, rfl, _, rfl, .ref ao, vr, os, rs, rfl, ho10.same s1024, hr10.same s1024, oo, o2, okr, l8, fun H25 s25 => ⟨_, rfl, iteF ?_⟩⟩
    have s1025 := s1024.trans s25
    have s525 := s510.trans s1025
    have w25 := w5.same s525
    have sw25 : Sw wl Hx H25 := sw5.trans (Sw.of s525)
    have ho25 := ho10.same s1025
    have hao25 : SqT K H25 ao (os.map V.str) := by
      obtain ⟨z, e, q⟩ := ho25.names_inv
      cases e
      exact q
    have lo : (os.map V.str).length = os.length := List.length_map ..
    -- some of the options
    refine ⟨_, rfl, _, rfl, wl, ao, _, os.map V.str, rfl, w25, hao25, by omega, by omega, fun D ys H26 s26 w26 pm hD hD0 => ?_⟩
    obtain ⟨ns, rfl, pn⟩ := perm_map pm os rfl
    have ln : ns.length = os.length := pn.length_eq
    have hao26 := (s26.tk w25.soft).t _ _ hao25
    have nD : D ≠ wl := w25.ne hD0
    refine ⟨_, rfl, _, rfl, ao, _, rfl, .inr hao26, wl, _, _, rfl, w26, by omega, by omega, by omega, fun d2 H27 e0 e1 s27 w27 => ?_⟩
    have hD27 := s27 _ _ nD hD
    refine ⟨1, d2, rfl, rfl, 1 + d2, rfl, ⟨⟨D, _, rfl, SqL.of hD27, fun cl hcl => ?_⟩⟩⟩
    obtain ⟨i2, hi2⟩ : ∃ i2 : Nat, 1 + d2 = (i2 : Int) := ⟨(1 + d2).toNat, by omega⟩
    have ecut : cutV (ns.map V.str) none (some (1 + d2)) = (ns.take i2).map V.str := by rw [hi2, cutV_take, List.map_take]
    obtain ⟨sm, esm⟩ : ∃ sm, sm = ns.take i2 := ⟨_, rfl⟩
    have lsm : sm.length ≤ 6 := by rw [esm, List.length_take]; omega
    have lsm1 : 1 ≤ sm.length := by rw [esm, List.length_take]; omega
    have smne : sm ≠ [] := fun e => by rw [e] at lsm1; simp at lsm1
    have smsub : ∀ x ∈ sm, x ∈ os := fun x hx => pn.subset (List.mem_of_mem_take (by rw [← esm]; exact hx))
    have smnd : sm.Nodup := by
      rw [esm]
      exact ((pn.nodup_iff).mpr ond).sublist (List.take_sublist ..)
    have smname : ∀ x ∈ sm, isNameS x = true := fun x hx => oo.name x (smsub x hx)
    have smok : ∀ x ∈ sm, PyData.strOk x = true := fun x hx => strOk_name (smname x hx)
    have scl : Same H27 (upd H27 cl (.lst (cutV (ns.map V.str) none (some (1 + d2))))) := L2.Same.put hcl
    have hcl' : upd H27 cl (.lst (cutV (ns.map V.str) none (some (1 + d2)))) cl = some (.lst (sm.map V.str)) := by rw [upd_same, ecut, esm]
    obtain ⟨H28, eH28⟩ : ∃ H28, H28 = upd H27 cl (.lst (cutV (ns.map V.str) none (some (1 + d2)))) := ⟨_, rfl⟩
    rw [← eH28] at scl hcl' ⊢
    refine tup_d hcl' (Dts.strs sm) fun vs H29 s29 hvs => ?_
    have hvs : Dt K H29 vs (dN sm) := hvs
    have sw2529 : Sw wl H25 H29 := (s26.trans s27).trans (Sw.of (scl.trans s29))
    have w29 := (w27.same scl).same s29
    have t2529 : Tk K H25 H29 := sw2529.tk w25.soft
    have plw : ∀ {mm : Nat} {Ha Hb : Hp} {v : V} {os' : List Str} {rs' : List (Bal × Int)}, Sw wl Ha Hb → Well Ha wl mm → Pl K C Ha v os' rs' → Pl K C Hb v os' rs' := fun {mm Ha Hb v os' rs'} sw wa hp => by
      obtain ⟨p, dx, o, r, rfl, hp, ho, hr⟩ := hp.ex
      have ne : p ≠ wl := fun e => by
        obtain ⟨a', b', c', hh, _⟩ := wa
        rw [← e, hp] at hh
        cases hh
      exact ⟨p, dx, o, r, rfl, sw _ _ ne hp, sw.dt wa ho, sw.dt wa hr⟩
    have nLp : Lp ≠ wl := fun e => by
      rw [e] at hLp
      exact (w5.same (s6.trans s7)).ne hLp rfl
    have P1b := plw sw2529 w25 (P1'.same s1025)
    have Pbb := plw sw2529 w25 (hvb.same (s2124.trans s25))
    have hLp29 := sw2529 _ _ nLp (s1025 _ _ hLp10)
    refine ⟨_, rfl, Lp, _, 0, .ref p1, rfl, rfl, SqL.of hLp29, rfl, _, rfl, rfl, .ref p1, vs, os, rs, sm, rfl, P1b, oo, okr, by omega, hvs, smne, smnd, smsub, fun H30 s30 => ⟨_, rfl, iteF ?_⟩⟩
    refine ⟨_, rfl, _, rfl, rfl, .ref pb, vs, os, rs ++ rs2, sm, rfl, Pbb.same s30, oo, okb, by omega, hvs.same s30, smne, smnd, smsub, fun H31 s31 => ⟨_, rfl, iteF ?_⟩⟩
    have s2931 := s30.trans s31
    have w31 := w29.same s2931
    have hvs31 := hvs.same s2931
    obtain ⟨asm, rfl, hasm⟩ := hvs31.names_inv
    -- the eight odd things
    refine ⟨_, rfl, Nat.le_of_ble_eq_true rfl, fun q0 hq0 => ?_⟩
    have sq0 : Same H31 (upd H31 q0 (.tup [])) := L2.Same.put hq0
    have hq0' : upd H31 q0 (.tup []) q0 = some (.tup []) := upd_same
    obtain ⟨H32, eH32⟩ : ∃ H32, H32 = upd H31 q0 (.tup []) := ⟨_, rfl⟩
    rw [← eH32] at sq0 hq0' ⊢
    refine ⟨_, rfl, lst_s (.inr (same_t sq0 hasm)) fun q1 H33 s33 hq1n hq1 => ?_⟩
    have s3133 := sq0.trans s33
    refine ⟨_, rfl, _, rfl, 1, rfl, slt (same_t s3133 hasm) fun H34 q3 s34 hq3 => ?_⟩
    have s3134 := s3133.trans s34
    have e1 : cutV (sm.map V.str) none (some (1 : Int)) = (sm.take 1).map V.str := by
      rw [List.map_take]
      exact cutV_take _ 1
    rw [e1] at hq3
    refine cat_d (d := sm.map PyData.str) (e := (sm.take 1).map PyData.str) (hvs31.same s3134) (Dt.names hq3) (by rw [List.length_map, List.length_map, List.length_take]; omega) fun v3 H35 s35 hv3 => ?_
    rw [← List.map_append] at hv3
    have hv3 : Dt K H35 v3 (dN (sm ++ sm.take 1)) := hv3
    have s3135 := s3134.trans s35
    refine ⟨Nat.le_of_ble_eq_true rfl, fun q4 hq4 => ?_⟩
    have sq4 : Same H35 (upd H35 q4 (.tup [.str "A"])) := L2.Same.put hq4
    have hq4' : upd H35 q4 (.tup [.str "A"]) q4 = some (.tup [.str "A"]) := upd_same
    obtain ⟨H36, eH36⟩ : ∃ H36, H36 = upd H35 q4 (.tup [.str "A"]) := ⟨_, rfl⟩
    rw [← eH36] at sq4 hq4' ⊢
    refine ⟨Nat.le_of_ble_eq_true rfl, fun q5 hq5 => ?_⟩
    have sq5 : Same H36 (upd H36 q5 (.tup [.int 5])) := L2.Same.put hq5
    have hq5' : upd H36 q5 (.tup [.int 5]) q5 = some (.tup [.int 5]) := upd_same
    obtain ⟨H37, eH37⟩ : ∃ H37, H37 = upd H36 q5 (.tup [.int 5]) := ⟨_, rfl⟩
    rw [← eH37] at sq5 hq5' ⊢
    have s3137 := s3135.trans (sq4.trans sq5)
    refine ⟨_, rfl, Nat.le_of_ble_eq_true rfl, fun q7 hq7 => ?_⟩
    have sq7 : Same H37 (upd H37 q7 (.tup [.str ""])) := L2.Same.put hq7
    refine cat_d (d := sm.map PyData.str) (e := [.str ""]) (hvs31.same (s3137.trans sq7)) (.new upd_same (.cons (.str _) .nil)) (by rw [List.length_map]; simp; omega) fun v7 H38 s38 hv7 => ?_
    have s3738 := sq7.trans s38
    have s3138 := s3137.trans s3738
    refine ⟨Nat.le_of_ble_eq_true rfl, fun Lo hLo => ?_⟩
    have sLo : Same H38 (upd H38 Lo (.lst [.ref q0, .ref q1, .non, v3, .ref q4, .ref q5, .str "a", v7])) := L2.Same.put hLo
    have hLo' : upd H38 Lo (.lst [.ref q0, .ref q1, .non, v3, .ref q4, .ref q5, .str "a", v7]) Lo = some (.lst [.ref q0, .ref q1, .non, v3, .ref q4, .ref q5, .str "a", v7]) := upd_same
    obtain ⟨H39, eH39⟩ : ∃ H39, H39 = upd H38 Lo (.lst [.ref q0, .ref q1, .non, v3, .ref q4, .ref q5, .str "a", v7]) := ⟨_, rfl⟩
    rw [← eH39] at sLo hLo' ⊢
    have s3139 := s3138.trans sLo
    have w39 := w31.same s3139
    have nLo : Lo ≠ wl := (w31.same s3138).ne hLo
    refine ⟨wl, Lo, _, _, rfl, w39, by omega, nLo, hLo', by simp, by simp, fun ii ov H40 hov s40 w40 => ?_⟩
    have t40 : Tk K H39 H40 := s40.tk w39.soft
    have nq1 : q1 ≠ wl := (w31.same sq0).ne hq1n
    -- each of them is refused
    have odd : ∀ {Hy : Hp} {Q' : VK} {E' : XK}, Same H40 Hy → Bad E' CB Hy → OnlyA K C CB CN Hy os rs Q' E' ov := by
      intro Hy Q' E' sy b
      have up : ∀ {v : V} {d : PyData}, Dt K H39 v d → Dt K Hy v d := fun h => (h.mono t40).same sy
      rcases ii with _ | _ | _ | _ | _ | _ | _ | _ | ii
      · cases hov
        exact only_bad1 (ds := []) (up ((Dt.new hq0' .nil).same (s33.trans (s34.trans (s35.trans (sq4.trans (sq5.trans (s3738.trans sLo)))))))) ((gd_tup (n := 0) (ds := []) fun _ h => nomatch h).mono (by decide)) (by simp) (fun x h => nomatch h) (.inl rfl) b
      · cases hov
        exact .lst (sy _ _ (s40 _ _ nq1 ((s34.trans (s35.trans (sq4.trans (sq5.trans (s3738.trans sLo))))) _ _ hq1))) b
      · cases hov
        exact .nt .non rfl b
      · cases hov
        refine only_bad2 (xs := sm ++ sm.take 1) (up (hv3.same (sq4.trans (sq5.trans (s3738.trans sLo))))) ((gd_dN fun x hx => ?_).mono (by decide)) (by rw [List.length_append, List.length_take]; omega) (by simp [smne]) (fun x hx => ?_) (fun nd => ?_) b
        · rcases List.mem_append.mp hx with hx | hx
          · exact smok x hx
          · exact smok x (List.mem_of_mem_take hx)
        · rcases List.mem_append.mp hx with hx | hx
          · exact smname x hx
          · exact smname x (List.mem_of_mem_take hx)
        · rw [List.nodup_append] at nd
          cases hsm : sm with
          | nil => exact smne hsm
          | cons x r =>
            rw [hsm] at nd
            exact nd.2.2 x (List.mem_cons_self ..) x (by simp) rfl
      · cases hov
        exact only_bad1 (ds := [.str "A"]) (up ((Dt.new hq4' (.cons (.str _) .nil)).same (sq5.trans (s3738.trans sLo)))) ((gd_dN (xs := ["A"]) (by decide +kernel)).mono (by decide)) (by simp) (fun x h => by simp at h; rw [h]; decide +kernel) (.inr (by decide +kernel)) b
      · cases hov
        exact only_bad1 (ds := [.int 5]) (up ((Dt.new hq5' (.cons (.int _) .nil)).same (s3738.trans sLo))) ((gd_tup (n := 0) (ds := [.int 5]) fun d hd => by rw [List.mem_singleton.mp hd]; exact gd_int _).mono (by decide)) (by simp) (fun x h => by simp at h) (.inr (by decide +kernel)) b
      · cases hov
        exact .nt (.str _) rfl b
      · cases hov
        refine only_bad1 (ds := sm.map PyData.str ++ [.str ""]) (up (hv7.same sLo)) ((gd_tup (n := 0) fun d hd => ?_).mono (by decide)) (by rw [List.length_append, List.length_map]; simp; omega) (fun x h => ?_) (.inr (by rw [List.all_append, show [PyData.str ""].all isNameD = false from by decide +kernel, Bool.and_false])) b
        · rcases List.mem_append.mp hd with hd | hd
          · obtain ⟨x, hx, rfl⟩ := List.mem_map.mp hd
            exact gd_str (smok x hx)
          · rw [List.mem_singleton.mp hd]
            exact gd_str (by decide +kernel)
        · rcases List.mem_append.mp h with h | h
          · obtain ⟨z, hz, e⟩ := List.mem_map.mp h
            cases e
            have := name_len (smname x hz)
            omega
          · simp at h
            rw [h]
            decide +kernel
      · cases hov
    have P1c := plw (s40) (w39) (P1b.same (s2931.trans s3139))
    have hvs40 := (hvs31.same s3139).mono t40
    have sw2940 : Sw wl H29 H40 := (Sw.of (s2931.trans s3139)).trans s40
    have hLp40 := sw2940 _ _ nLp hLp29
    have ho40 : Dt K H40 (.ref ao) (dN os) := ((ho25.mono t2529).same (s2931.trans s3139)).mono t40
    -- a name that is none of the options
    obtain ⟨x0, r0, er0, x0no, x0name⟩ := strange_ex (os := os) o6
    refine ⟨Nat.le_of_ble_eq_true rfl, fun q8 hq8 => ?_⟩
    have sq8 : Same H40 (upd H40 q8 (.tup (words7.map V.str))) := L2.Same.put hq8
    have hq8' : upd H40 q8 (.tup (words7.map V.str)) q8 = some (.tup (words7.map V.str)) := upd_same
    refine ⟨q8, rfl, ⟨_, SqT.of hq8'⟩, fun D2 hD2 => lc_d (K := K) words7 (fun x => if x ∉ os then some (PyData.str x) else none) (by simpa using walk_tup (K := K) (a := q8) (xs := words7.map V.str)) hD2 (by decide) (fun H3 s3 => same_t s3 (SqT.of hq8')) ?_ fun H41 us s41 hu41 hd41 => ?_⟩
    · rintro j c x H3 H4 hc s3 ⟨rfl, hx⟩
      obtain rfl := str_item hc hx
      obtain ⟨z, e0, hao3⟩ := (ho40.same (sq8.trans s3)).names_inv
      cases e0
      refine ⟨Same.refl _, fun A N hA hN => ⟨rfl, _, rfl, _, rfl, nin_s (.inr hao3) ⟨_, rfl, ?_⟩⟩⟩
      by_cases e : c ∈ os
      · rw [decide_eq_true e]
        exact iteF (hN _ (if_neg fun z => z e) (Same.refl _))
      · rw [decide_eq_false e]
        exact iteT ⟨_, rfl, hA _ _ _ (if_pos e) (Same.refl _) (.str c)⟩
    rw [filterMap_if (fun x : Str => x ∉ os) PyData.str] at hd41
    have eus := hd41.to_strs
    rw [er0, List.map_cons] at eus
    refine ⟨D2, us, 0, .str x0, rfl, rfl, SqL.of hu41, (by rw [eus]; exact atI_nat (j := 0) rfl), ?_⟩
    have s4041 := sq8.trans s41
    have hLp41 := s4041 _ _ hLp40
    have P2c := plw (s40) (w39) ((plw sw2529 w25 (P2'.same s1025)).same (s2931.trans s3139))
    have gnil : ∀ {ds : List PyData}, (∀ d ∈ ds, Gd 0 d) → Gd 7 (.tuple ds) := fun h => (gd_tup h).mono (by decide)
    have x0ok : PyData.strOk x0 = true := strOk_name x0name
    have x0len := name_len x0name
    have fpoll : fit (.str "poll") = true := by decide +kernel
    -- two cuts that are refused
    refine ⟨_, rfl, Lp, _, 0, .ref p1, rfl, rfl, SqL.of hLp41, rfl, _, rfl, Nat.le_of_ble_eq_true rfl, fun q9 hq9 => ?_⟩
    have sq9 := L2.Same.put (o := .tup [.str x0, .str "A"]) hq9
    refine ⟨.ref p1, .ref q9, os, rs, rfl, P1c.same (s4041.trans sq9), oo, okr, by omega, only_bad1 (ds := [.str x0, .str "A"]) (.new upd_same (.cons (.str _) (.cons (.str _) .nil))) (gnil fun d hd => ?_) (by simp) (fun x h => ?_) (.inr ?_) fun d43 H43 s43 => .inl ⟨rfl, ?_⟩⟩
    · simp at hd
      rcases hd with rfl | rfl
      · exact gd_str x0ok
      · exact gd_str (by decide +kernel)
    · simp at h
      rcases h with rfl | rfl
      · omega
      · decide +kernel
    · show (isNameD (.str x0) && (isNameD (.str "A") && true)) = false
      rw [show isNameD (.str "A") = false from by decide +kernel, Bool.false_and, Bool.and_false]
    refine ne_d (.str _) (.str _) fpoll fpoll (fun _ => ⟨_, rfl, iteF ?_⟩) fun z => absurd rfl z
    have s4043 := s4041.trans (sq9.trans s43)
    have hLp43 := s4043 _ _ hLp40
    refine ⟨_, rfl, Lp, _, 0, .ref p1, rfl, rfl, SqL.of hLp43, rfl, _, rfl, Nat.le_of_ble_eq_true rfl, fun q10 hq10 => ?_⟩
    have sq10 := L2.Same.put (o := .tup [.str x0, .non]) hq10
    refine ⟨.ref p1, .ref q10, os, rs, rfl, P1c.same (s4043.trans sq10), oo, okr, by omega, only_bad1 (ds := [.str x0, .none]) (.new upd_same (.cons (.str _) (.cons .non .nil))) (gnil fun d hd => ?_) (by simp) (fun x h => ?_) (.inr ?_) fun d44 H44 s44 => .inl ⟨rfl, ?_⟩⟩
    · simp at hd
      rcases hd with rfl | rfl
      · exact gd_str x0ok
      · exact ⟨rfl, Nat.le_refl _⟩
    · simp at h
      rw [h]
      omega
    · show (isNameD (.str x0) && (isNameD .none && true)) = false
      rw [show isNameD .none = false from rfl, Bool.false_and, Bool.and_false]
    refine ne_d (.str _) (.str _) fpoll fpoll (fun _ => ⟨_, rfl, iteF ?_⟩) fun z => absurd rfl z
    have s4044 := s4043.trans (sq10.trans s44)
    have hLp44 := s4044 _ _ hLp40
    -- the odd one
    refine ⟨_, rfl, Lp, _, 0, .ref p1, rfl, rfl, SqL.of hLp44, rfl, _, rfl, ?_⟩
    refine ⟨.ref p1, ov, os, rs, rfl, P1c.same s4044, oo, okr, by omega, odd s4044 fun d45 H45 s45 => .inl ⟨rfl, ?_⟩⟩
    refine ne_d (.str _) (.str _) fpoll fpoll (fun _ => ⟨_, rfl, iteF ?_⟩) fun z => absurd rfl z
    have s4045 := s4044.trans s45
    have hLp45 := s4045 _ _ hLp40
    -- one that is no option
    refine ⟨_, rfl, Lp, _, 0, .ref p1, rfl, rfl, SqL.of hLp45, rfl, _, rfl, _, rfl, Nat.le_of_ble_eq_true rfl, fun q11 hq11 => ?_⟩
    have sq11 := L2.Same.put (o := .tup [.str x0]) hq11
    refine cat_d (d := sm.map PyData.str) (e := [.str x0]) (hvs40.same (s4045.trans sq11)) (.new upd_same (.cons (.str _) .nil)) (by rw [List.length_map]; simp; omega) fun v12 H46 s46 hv12 => ?_
    have e12 : PyData.tuple (sm.map PyData.str ++ [.str x0]) = dN (sm ++ [x0]) := by
      unfold dN
      rw [List.map_append]
      rfl
    rw [e12] at hv12
    have s4046 := s4045.trans (sq11.trans s46)
    refine ⟨.ref p1, v12, os, rs, rfl, P1c.same s4046, oo, okr, by omega, only_none hv12 ((gd_dN fun x hx => ?_).mono (by decide)) (by omega) smname x0name smnd smsub x0no fun d47 H47 s47 hd47 => .inr ⟨rfl, d47, x0, rfl, hd47, fun v13 H48 s48 hv13 => ?_⟩⟩
    · rcases List.mem_append.mp hx with hx | hx
      · exact smok x hx
      · rw [List.mem_singleton.mp hx]
        exact x0ok
    refine ⟨_, rfl, Nat.le_of_ble_eq_true rfl, fun q14 hq14 => ?_⟩
    have sq14 := L2.Same.put (o := .tup [.str "none", .str x0]) hq14
    have gn : fit (.tuple [.str "none", .str x0]) = true := (gd_tup (n := 0) fun d hd => by
      simp at hd
      rcases hd with rfl | rfl
      · exact gd_str (by decide +kernel)
      · exact gd_str x0ok).fit (by decide)
    refine ne_d (hv13.same sq14) (.new upd_same (.cons (.str _) (.cons (.str _) .nil))) gn gn (fun _ => ⟨_, rfl, iteF ?_⟩) fun z => absurd rfl z
    have s4049 := s4046.trans (s47.trans (s48.trans sq14))
    have hLp49 := s4049 _ _ hLp40
    -- shown as before
    refine ⟨_, rfl, ⟨⟨Lp, [p1, p2], [showP os rs, showP os rs2], rfl, hLp49, by simp, .cons ⟨os, rs, P1c.same s4049, oo, okr, by omega, rfl⟩ (.cons ⟨os, rs2, P2c.same s4049, oo, ok2, by omega, rfl⟩ .nil), two_len lt1 lt2, ?_⟩⟩⟩
    refine ⟨_, rfl, rfl, _, rfl, ?_⟩
    rw [decide_eq_true rfl]
    refine iteF ⟨⟨_, _, _, _, _, _, _, _, _, _, _, _, rfl⟩, sx.trans ((sw25.trans (sw2529.trans (sw2940.trans (Sw.of s4049)))).same0 hwl)⟩
end
end VF
set_option maxHeartbeats 4000000
/-! ## CA. the plain law: tallies -/
namespace VF
open PySem L2
section
variable {α : Type} [DecidableEq α]
theorem nodup_leG : ∀ (xs ys : List α), xs.Nodup → (∀ x ∈ xs, x ∈ ys) → xs.length ≤ ys.length
  | [], _, _, _ => Nat.zero_le _
  | x :: r, ys, h, m => by
    rw [List.nodup_cons] at h
    have hx : x ∈ ys := m x (List.mem_cons_self ..)
    have q := nodup_leG r (ys.erase x) h.2 fun y hy => (List.mem_erase_of_ne fun e => h.1 (by rw [← e]; exact hy)).mpr (m y (List.mem_cons_of_mem _ hy))
    rw [List.length_erase_of_mem hx] at q
    have p := List.length_pos_of_mem hx
    rw [List.length_cons]
    omega
theorem nodup_permG : ∀ (xs ys : List α), xs.Nodup → (∀ x ∈ xs, x ∈ ys) → ys.length ≤ xs.length → xs.Perm ys
  | [], ys, _, _, l => by
    have : ys = [] := List.eq_nil_of_length_eq_zero (Nat.le_zero.mp l)
    rw [this]
  | x :: r, ys, h, m, l => by
    rw [List.nodup_cons] at h
    have hx : x ∈ ys := m x (List.mem_cons_self ..)
    have q := nodup_permG r (ys.erase x) h.2 (fun y hy => (List.mem_erase_of_ne fun e => h.1 (by rw [← e]; exact hy)).mpr (m y (List.mem_cons_of_mem _ hy))) (by
      rw [List.length_erase_of_mem hx]
      rw [List.length_cons] at l
      omega)
    exact (q.cons x).trans (List.perm_cons_erase hx).symm
end
abbrev Keys (m : Tally) : Prop := (m.map (·.1)).Nodup
theorem tval_some {m : Tally} {k : List (List Str)} {v : Int} (h : tval m k = some v) : (k, v) ∈ m := by
  unfold tval at h
  cases e : m.find? fun p => decide (p.1 = k) with
  | none => rw [e] at h; cases h
  | some p =>
    rw [e] at h
    have e2 := List.find?_some e
    have e3 : p.1 = k := of_decide_eq_true e2
    have e4 : p.2 = v := by cases h; rfl
    rw [← e3, ← e4]
    exact List.mem_of_find?_eq_some e
theorem tval_none {m : Tally} {k : List (List Str)} : tval m k = none ↔ k ∉ m.map (·.1) := by
  unfold tval
  rw [Option.map_eq_none_iff, List.find?_eq_none]
  constructor
  · intro h hk
    obtain ⟨p, hp, rfl⟩ := List.mem_map.mp hk
    have := h p hp
    simp at this
  · intro h p hp e
    exact h (List.mem_map.mpr ⟨p, hp, of_decide_eq_true e⟩)
theorem keys_inj {m : Tally} (n : Keys m) {p q : List (List Str) × Int} (hp : p ∈ m) (hq : q ∈ m) (e : p.1 = q.1) : p = q := by
  induction m with
  | nil => cases hp
  | cons a r ih =>
    have n' : a.1 ∉ r.map (·.1) ∧ (r.map (·.1)).Nodup := by
      have z : (a.1 :: r.map (·.1)).Nodup := n
      exact List.nodup_cons.mp z
    rcases List.mem_cons.mp hp with hp | hp <;> rcases List.mem_cons.mp hq with hq | hq
    · rw [hp, hq]
    · exact absurd (List.mem_map.mpr ⟨q, hq, by rw [← e, hp]⟩) n'.1
    · exact absurd (List.mem_map.mpr ⟨p, hp, by rw [e, hq]⟩) n'.1
    · exact ih n'.2 hp hq
theorem tval_mem {m : Tally} (n : Keys m) {p : List (List Str) × Int} (hp : p ∈ m) : tval m p.1 = some p.2 := by
  cases e : tval m p.1 with
  | none => exact absurd (List.mem_map_of_mem hp) (tval_none.mp e)
  | some v =>
    have q := keys_inj n (tval_some e) hp rfl
    rw [← q]
theorem tput_keysEq (m : Tally) (k : List (List Str)) (v : Int) : (tput m k v).map (·.1) = if (tval m k).isSome then m.map (·.1) else m.map (·.1) ++ [k] := by
  unfold tput
  split
  · rw [List.map_map]
    refine List.map_congr_left fun p _ => ?_
    show (if p.1 = k then (p.1, v) else p).1 = p.1
    split <;> rfl
  · rw [List.map_append]
    rfl
theorem tput_keysN {m : Tally} (n : Keys m) (k : List (List Str)) (v : Int) : Keys (tput m k v) := by
  unfold Keys
  rw [tput_keysEq]
  cases e : tval m k with
  | some _ => exact n
  | none =>
    show (m.map (·.1) ++ [k]).Nodup
    rw [List.nodup_append]
    refine ⟨n, by simp, fun a ha b hb z => ?_⟩
    rw [List.mem_singleton.mp hb] at z
    exact tval_none.mp e (by rw [← z]; exact ha)
theorem tval_tput {m : Tally} (n : Keys m) (k j : List (List Str)) (v : Int) : tval (tput m k v) j = if k = j then some v else tval m j := by
  have n2 := tput_keysN n k v
  by_cases h : k = j
  · rw [if_pos h]
    subst h
    have mem : (k, v) ∈ tput m k v := by
      unfold tput
      cases e : tval m k with
      | some w =>
        rw [if_pos (by rfl)]
        exact List.mem_map.mpr ⟨(k, w), tval_some e, if_pos rfl⟩
      | none =>
        rw [if_neg (by simp)]
        exact List.mem_append_right _ (List.mem_singleton.mpr rfl)
    exact tval_mem n2 mem
  · rw [if_neg h]
    cases e : tval m j with
    | some w =>
      have q := tval_some e
      have mem : (j, w) ∈ tput m k v := by
        unfold tput
        split
        · exact List.mem_map.mpr ⟨(j, w), q, if_neg fun z => h z.symm⟩
        · exact List.mem_append_left _ q
      exact tval_mem n2 mem
    | none =>
      rw [tval_none, tput_keysEq]
      have q := tval_none.mp e
      split
      · exact q
      · intro z
        rcases List.mem_append.mp z with z | z
        · exact q z
        · exact h (List.mem_singleton.mp z).symm
/-- the number of the rows of one key -/
def cN (f : Bal → List (List Str)) (k : List (List Str)) : List (Bal × Int) → Option Int
  | [] => none
  | r :: rs => if f r.1 = k then some (r.2 + (cN f k rs).getD 0) else cN f k rs
theorem cN_snoc (f : Bal → List (List Str)) (k : List (List Str)) (r : Bal × Int) : ∀ rs : List (Bal × Int), cN f k (rs ++ [r]) = if f r.1 = k then some ((cN f k rs).getD 0 + r.2) else cN f k rs
  | [] => by
    show (if f r.1 = k then some (r.2 + 0) else none) = if f r.1 = k then some (0 + r.2) else none
    rw [Int.add_zero, Int.zero_add]
  | a :: rs => by
    show (if f a.1 = k then some (a.2 + (cN f k (rs ++ [r])).getD 0) else cN f k (rs ++ [r])) = if f r.1 = k then some ((if f a.1 = k then some (a.2 + (cN f k rs).getD 0) else cN f k rs).getD 0 + r.2) else if f a.1 = k then some (a.2 + (cN f k rs).getD 0) else cN f k rs
    rw [cN_snoc f k r rs]
    by_cases h1 : f a.1 = k <;> by_cases h2 : f r.1 = k
    · rw [if_pos h1, if_pos h2, if_pos h2, if_pos h1]
      show some (a.2 + ((cN f k rs).getD 0 + r.2)) = some (a.2 + (cN f k rs).getD 0 + r.2)
      rw [Int.add_assoc]
    · rw [if_pos h1, if_neg h2, if_neg h2, if_pos h1]
    · rw [if_neg h1, if_pos h2, if_pos h2, if_neg h1]
    · rw [if_neg h1, if_neg h2, if_neg h2, if_neg h1]
theorem cN_perm (f : Bal → List (List Str)) (k : List (List Str)) {rs rs2 : List (Bal × Int)} (h : rs.Perm rs2) : cN f k rs = cN f k rs2 := by
  induction h with
  | nil => rfl
  | cons a _ ih =>
    unfold cN
    rw [ih]
  | swap a b l =>
    unfold cN
    unfold cN
    by_cases h1 : f a.1 = k <;> by_cases h2 : f b.1 = k
    · simp only [h1, h2, if_true, Option.getD_some]
      congr 1
      omega
    · simp only [h1, h2, if_true, if_false]
    · simp only [h1, h2, if_true, if_false]
    · simp only [h1, h2, if_false]
  | trans _ _ ih1 ih2 => rw [ih1, ih2]
theorem tally_facts (f : Bal → List (List Str)) : ∀ rs : List (Bal × Int), Keys (tally f rs) ∧ ∀ k, tval (tally f rs) k = cN f k rs := by
  refine snocInd ⟨List.nodup_nil, fun k => rfl⟩ fun rs r ih => ?_
  rw [tally_snoc]
  refine ⟨tput_keysN ih.1 _ _, fun k => ?_⟩
  rw [tval_tput ih.1, cN_snoc]
  by_cases h : f r.1 = k
  · rw [if_pos h, if_pos h, ← ih.2, h]
  · rw [if_neg h, if_neg h, ih.2]
theorem eqTally_of {m1 m2 : Tally} (n1 : Keys m1) (n2 : Keys m2) (h : ∀ k, tval m1 k = tval m2 k) : eqTally m1 m2 = true := by
  have sub : ∀ {a b : Tally}, (∀ k, tval a k = tval b k) → ∀ x ∈ a.map (·.1), x ∈ b.map (·.1) := fun {a b} h x hx => by
    by_cases m : x ∈ b.map (·.1)
    · exact m
    · have q := tval_none.mpr m
      rw [← h, tval_none] at q
      exact absurd hx q
  have l1 := nodup_leG _ _ n1 (sub h)
  have l2 := nodup_leG _ _ n2 (sub fun k => (h k).symm)
  rw [List.length_map, List.length_map] at l1 l2
  unfold eqTally
  rw [decide_eq_true (show m1.length = m2.length by omega), Bool.true_and, List.all_eq_true]
  intro p hp
  rw [decide_eq_true_iff, ← h]
  exact tval_mem n1 hp
theorem eqTally_iff {m1 m2 : Tally} (n1 : Keys m1) (n2 : Keys m2) : eqTally m1 m2 = true ↔ m1.Perm m2 := by
  have nd : ∀ {m : Tally}, Keys m → m.Nodup := fun {m} n => by
    have q := List.Pairwise.of_map (S := fun a b => a ≠ b) (R := fun a b => a ≠ b) (f := fun p : List (List Str) × Int => p.1) (l := m) (fun a b h e => h (by rw [e])) n
    exact q
  constructor
  · intro h
    unfold eqTally at h
    rw [Bool.and_eq_true, decide_eq_true_iff, List.all_eq_true] at h
    refine nodup_permG _ _ (nd n1) (fun p hp => ?_) (by omega)
    have q := tval_some (of_decide_eq_true (h.2 p hp))
    exact q
  · intro h
    unfold eqTally
    rw [decide_eq_true h.length_eq, Bool.true_and, List.all_eq_true]
    intro p hp
    rw [decide_eq_true_iff]
    exact tval_mem n2 (h.subset hp)
theorem plain_swap (os : List Str) (rs rs2 : List (Bal × Int)) : eqPoll os (rs ++ rs2) os (rs2 ++ rs) = true := by
  unfold eqPoll
  rw [decide_eq_true rfl, Bool.true_and]
  have h1 := tally_facts (fun b => tiersOf os (heightOf b)) (rs ++ rs2)
  have h2 := tally_facts (fun b => tiersOf os (heightOf b)) (rs2 ++ rs)
  exact eqTally_of h1.1 h2.1 fun k => by
    show tval (tally _ _) k = tval (tally _ _) k
    rw [h1.2, h2.2, cN_perm _ k List.perm_append_comm]
end VF
set_option maxHeartbeats 4000000
/-! ## CB. the plain law: sorted lists of (text, number) -/
namespace VF
open PySem L2
open PySem.W (dataLe dataLt alike sortLe)
theorem dP_inj {p q : Str × Int} (h : dP p = dP q) : p = q := by
  unfold dP at h
  have e := PyData.tuple.inj h
  rw [List.cons.injEq, List.cons.injEq] at e
  have e1 := PyData.str.inj e.1
  have e2 := PyData.int.inj e.2.1
  exact Prod.ext e1 e2
theorem lt_dP (p q : Str × Int) : dataLt (dP p) (dP q) = if p.1 = q.1 then decide (p.2 < q.2) else decide (p.1.cps.toList < q.1.cps.toList) := by
  unfold dP
  rw [PySem.W.dataLt_pair (by simp [alike]) (by simp [alike]), PySem.W.dataLt_str, PySem.W.dataLt_int]
  have e1 : (PyData.eqv (.str p.1) (.str q.1) = true) = (p.1 = q.1) := by simp [PyData.eqv]
  have e2 : (PyData.eqv (.int p.2) (.int q.2) = true) = (p.2 = q.2) := by simp [PyData.eqv]
  simp only [e1, e2]
  by_cases h : p.1 = q.1
  · rw [if_pos h, if_pos h]
    by_cases h2 : p.2 = q.2
    · rw [if_pos h2, h2, decide_eq_false (Int.lt_irrefl _)]
    · rw [if_neg h2]
  · rw [if_neg h, if_neg h]
theorem le_dP (p q : Str × Int) : dataLe false real (dP p) (dP q) = !dataLt (dP q) (dP p) := by
  show (!dataLt (real (dP q)) (real (dP p))) = _
  rw [real_dP, real_dP]
theorem anti_dP (p q : Str × Int) (h1 : dataLe false real (dP p) (dP q) = true) (h2 : dataLe false real (dP q) (dP p) = true) : p = q := by
  rw [le_dP, Bool.not_eq_true', lt_dP] at h1 h2
  by_cases h : p.1 = q.1
  · rw [if_pos h.symm, decide_eq_false_iff_not] at h1
    rw [if_pos h, decide_eq_false_iff_not] at h2
    exact Prod.ext h (by omega)
  · rw [if_neg fun e => h e.symm, decide_eq_false_iff_not] at h1
    rw [if_neg h, decide_eq_false_iff_not] at h2
    have e : p.1.cps.toList = q.1.cps.toList := List.le_antisymm h1 h2
    exact absurd (PySem.W.str_of_cps e) h
theorem sorted_iff (l1 l2 : List (Str × Int)) : (l1.map dP).mergeSort (dataLe false real) = (l2.map dP).mergeSort (dataLe false real) ↔ l1.Perm l2 := by
  have T := PySem.W.sortLe_total (PyProof.Rows.listOrd PyProof.Rows.itemOrd) false fun b : PyData => PySem.W.keyToks (real b)
  have srt : ∀ l : List PyData, (l.mergeSort (dataLe false real)).Pairwise (fun a b => dataLe false real a b = true) := fun l => List.pairwise_mergeSort (le := dataLe false real) T.trans (fun a b => Bool.or_eq_true_iff.mpr (T.total a b)) l
  constructor
  · intro h
    have p1 := List.mergeSort_perm (l1.map dP) (dataLe false real)
    have p2 := List.mergeSort_perm (l2.map dP) (dataLe false real)
    rw [h] at p1
    obtain ⟨ns, e, pn⟩ := perm_map (p1.symm.trans p2) l2 rfl
    rw [map_inj' (fun _ _ => dP_inj) e]
    exact pn
  · intro h
    have p : ((l1.map dP).mergeSort (dataLe false real)).Perm ((l2.map dP).mergeSort (dataLe false real)) :=
      (List.mergeSort_perm _ _).trans ((h.map dP).trans (List.mergeSort_perm _ _).symm)
    refine List.Perm.eq_of_pairwise (le := fun a b => dataLe false real a b = true) (fun a b ha hb q1 q2 => ?_) (srt _) (srt _) p
    obtain ⟨x, _, rfl⟩ := List.mem_map.mp ((List.mergeSort_perm _ _).subset ha)
    obtain ⟨y, _, rfl⟩ := List.mem_map.mp ((List.mergeSort_perm _ _).subset hb)
    rw [anti_dP x y q1 q2]
end VF
set_option maxHeartbeats 4000000
/-! ## CC. the plain law: texts of tiers tell them apart -/
namespace VF
open PySem L2
abbrev T (s : Str) : List Nat := s.cps.toList
theorem T_app (a b : Str) : T (a ++ b) = T a ++ T b := by
  show (a ++ b).cps.toList = a.cps.toList ++ b.cps.toList
  rw [show (a ++ b).cps = a.cps ++ b.cps from rfl, Array.toList_append]
def nameT (x : Str) : List Nat := 39 :: (T x ++ [39])
def rest2 : List (List Nat) → List Nat
  | [] => [41]
  | x :: r => 44 :: 32 :: (x ++ rest2 r)
def rest1 : List (List Nat) → List Nat
  | [] => [44, 41]
  | x :: r => 44 :: 32 :: (x ++ rest2 r)
def tupT : List (List Nat) → List Nat
  | [] => [40, 41]
  | x :: r => 40 :: (x ++ rest1 r)
theorem letters_repr : ∀ c ∈ alph.cps.toList, PySem.Builtin.Str.reprChar 39 c = [c] := by decide +kernel
theorem name_letters {x : Str} (h : isNameS x = true) : ∀ c ∈ T x, c ∈ alph.cps.toList := fun c hc => by
  simp only [isNameS, Bool.and_eq_true, List.all_eq_true] at h
  exact of_decide_eq_true (h.2 c hc)
theorem letters_no : ∀ c ∈ alph.cps.toList, c ≠ 39 ∧ c < 128 := by decide +kernel
theorem foldl_letters : ∀ (l : List Nat) (acc : Array Nat), (∀ c ∈ l, c ∈ alph.cps.toList) → l.foldl (fun out c => out ++ (PySem.Builtin.Str.reprChar 39 c).toArray) acc = acc ++ l.toArray
  | [], acc, _ => by simp
  | c :: r, acc, h => by
    rw [List.foldl_cons, letters_repr c (h c (List.mem_cons_self ..)), foldl_letters r _ fun d hd => h d (List.mem_cons_of_mem _ hd)]
    simp
theorem repr_name {x : Str} (h : isNameS x = true) : T (PySem.reprText x) = nameT x := by
  have hl := name_letters h
  have q : PySem.reprQuote x = 39 := by
    unfold PySem.reprQuote
    have : x.cps.contains 39 = false := by
      rw [Array.contains_eq_mem, decide_eq_false_iff_not, ← Array.mem_toList_iff]
      exact fun hm => (letters_no 39 (hl 39 hm)).1 rfl
    rw [this]
    rfl
  unfold PySem.reprText
  rw [q]
  show ((x.cps.foldl (fun out c => out ++ (PySem.Builtin.Str.reprChar 39 c).toArray) #[39]).push 39).toList = 39 :: (T x ++ [39])
  rw [← Array.foldl_toList, foldl_letters _ _ hl]
  simp
theorem join_rest2 : ∀ (y : Str) (r : List Str), T (Str.join ", " (y :: r)) ++ [41] = T y ++ rest2 (r.map T)
  | y, [] => rfl
  | y, z :: r => by
    show T (y ++ (", " : Str) ++ Str.join ", " (z :: r)) ++ [41] = T y ++ (44 :: 32 :: (T z ++ rest2 (r.map T)))
    rw [T_app, T_app, List.append_assoc, List.append_assoc, join_rest2 z r]
    have e : T (", " : Str) = [44, 32] := by decide +kernel
    rw [e]
    rfl
theorem tuple_T : ∀ ts : List Str, T (PySem.tupleText ts) = tupT (ts.map T)
  | [] => by decide +kernel
  | [x] => by
    show T (("(" : Str) ++ x ++ (",)" : Str)) = 40 :: (T x ++ [44, 41])
    rw [T_app, T_app, show T ("(" : Str) = [40] from by decide +kernel, show T (",)" : Str) = [44, 41] from by decide +kernel]
    rfl
  | x :: y :: r => by
    have e : PySem.tupleText (x :: y :: r) = ("(" : Str) ++ (x ++ (", " : Str) ++ Str.join ", " (y :: r)) ++ (")" : Str) := by
      unfold PySem.tupleText
      have : ((x :: y :: r).length == 1) = false := by simp
      rw [this]
      rfl
    rw [e, T_app, T_app, T_app, T_app, show T ("(" : Str) = [40] from by decide +kernel, show T (")" : Str) = [41] from by decide +kernel, show T (", " : Str) = [44, 32] from by decide +kernel]
    show [40] ++ (T x ++ [44, 32] ++ T (Str.join ", " (y :: r))) ++ [41] = 40 :: (T x ++ (44 :: 32 :: (T y ++ rest2 (r.map T))))
    rw [← join_rest2]
    simp
end VF
set_option maxHeartbeats 4000000
/-! ## CD. the plain law: prefix codes; the whole -/
namespace VF
open PySem L2
/-- g tells its data apart, whatever follows -/
structure Pre {α : Type} (g : α → List Nat) (ok : α → Prop) : Prop where
  un : ∀ a b r s, ok a → ok b → g a ++ r = g b ++ s → a = b ∧ r = s
  hd : ∀ a, ok a → ∃ c t, g a = c :: t ∧ c ≠ 41
theorem till39 : ∀ (a b r s : List Nat), (∀ c ∈ a, c ≠ 39) → (∀ c ∈ b, c ≠ 39) → a ++ 39 :: r = b ++ 39 :: s → a = b ∧ r = s
  | [], [], r, s, _, _, h => ⟨rfl, (List.cons.inj h).2⟩
  | [], c :: b, r, s, _, hb, h => absurd (List.cons.inj h).1.symm (hb c (List.mem_cons_self ..))
  | c :: a, [], r, s, ha, _, h => absurd (List.cons.inj h).1 (ha c (List.mem_cons_self ..))
  | c :: a, d :: b, r, s, ha, hb, h => by
    have q := List.cons.inj (show c :: (a ++ 39 :: r) = d :: (b ++ 39 :: s) from h)
    have q2 := till39 a b r s (fun x hx => ha x (List.mem_cons_of_mem _ hx)) (fun x hx => hb x (List.mem_cons_of_mem _ hx)) q.2
    exact ⟨by rw [q.1, q2.1], q2.2⟩
theorem pre_name : Pre nameT fun x => isNameS x = true := by
  refine ⟨fun a b r s ha hb h => ?_, fun a _ => ⟨39, _, rfl, by decide⟩⟩
  have h2 : 39 :: (T a ++ 39 :: r) = 39 :: (T b ++ 39 :: s) := by
    simpa [nameT] using h
  have q := till39 (T a) (T b) r s (fun c hc => (letters_no c (name_letters ha c hc)).1) (fun c hc => (letters_no c (name_letters hb c hc)).1) (List.cons.inj h2).2
  exact ⟨PySem.W.str_of_cps q.1, q.2⟩
section
variable {α : Type} {g : α → List Nat} {ok : α → Prop}
theorem pre_rest2 (P : Pre g ok) : ∀ (a b : List α) (r s : List Nat), (∀ x ∈ a, ok x) → (∀ x ∈ b, ok x) → rest2 (a.map g) ++ r = rest2 (b.map g) ++ s → a = b ∧ r = s
  | [], [], r, s, _, _, h => ⟨rfl, (List.cons.inj h).2⟩
  | [], y :: b, r, s, _, _, h => absurd (List.cons.inj h).1 (by decide)
  | x :: a, [], r, s, _, _, h => absurd (List.cons.inj h).1 (by decide)
  | x :: a, y :: b, r, s, ha, hb, h => by
    have h1 : 44 :: 32 :: (g x ++ rest2 (a.map g) ++ r) = 44 :: 32 :: (g y ++ rest2 (b.map g) ++ s) := h
    have h2 := (List.cons.inj (List.cons.inj h1).2).2
    rw [List.append_assoc, List.append_assoc] at h2
    have q := P.un x y _ _ (ha x (List.mem_cons_self ..)) (hb y (List.mem_cons_self ..)) h2
    have q2 := pre_rest2 P a b r s (fun z hz => ha z (List.mem_cons_of_mem _ hz)) (fun z hz => hb z (List.mem_cons_of_mem _ hz)) q.2
    exact ⟨by rw [q.1, q2.1], q2.2⟩
theorem pre_rest1 (P : Pre g ok) : ∀ (a b : List α) (r s : List Nat), (∀ x ∈ a, ok x) → (∀ x ∈ b, ok x) → rest1 (a.map g) ++ r = rest1 (b.map g) ++ s → a = b ∧ r = s
  | [], [], r, s, _, _, h => ⟨rfl, (List.cons.inj (List.cons.inj h).2).2⟩
  | [], y :: b, r, s, _, _, h => absurd (List.cons.inj (List.cons.inj h).2).1 (by decide)
  | x :: a, [], r, s, _, _, h => absurd (List.cons.inj (List.cons.inj h).2).1 (by decide)
  | x :: a, y :: b, r, s, ha, hb, h => pre_rest2 P (x :: a) (y :: b) r s ha hb h
theorem pre_tup (P : Pre g ok) : Pre (fun l : List α => tupT (l.map g)) fun l => ∀ x ∈ l, ok x := by
  refine ⟨fun a b r s ha hb h => ?_, fun a _ => ?_⟩
  · match a, b, ha, hb, h with
    | [], [], _, _, h => exact ⟨rfl, (List.cons.inj (List.cons.inj h).2).2⟩
    | [], y :: b, _, hb, h =>
      obtain ⟨c, t, e, ne⟩ := P.hd y (hb y (List.mem_cons_self ..))
      have h1 : 40 :: 41 :: r = 40 :: (g y ++ rest1 (b.map g) ++ s) := h
      rw [e] at h1
      exact absurd (List.cons.inj (List.cons.inj h1).2).1.symm ne
    | x :: a, [], ha, _, h =>
      obtain ⟨c, t, e, ne⟩ := P.hd x (ha x (List.mem_cons_self ..))
      have h1 : 40 :: (g x ++ rest1 (a.map g) ++ r) = 40 :: 41 :: s := h
      rw [e] at h1
      exact absurd (List.cons.inj (List.cons.inj h1).2).1 ne
    | x :: a, y :: b, ha, hb, h =>
      have h1 : 40 :: (g x ++ rest1 (a.map g) ++ r) = 40 :: (g y ++ rest1 (b.map g) ++ s) := h
      have h2 := (List.cons.inj h1).2
      rw [List.append_assoc, List.append_assoc] at h2
      have q := P.un x y _ _ (ha x (List.mem_cons_self ..)) (hb y (List.mem_cons_self ..)) h2
      have q2 := pre_rest1 P a b r s (fun z hz => ha z (List.mem_cons_of_mem _ hz)) (fun z hz => hb z (List.mem_cons_of_mem _ hz)) q.2
      exact ⟨by rw [q.1, q2.1], q2.2⟩
  · cases a with
    | nil => exact ⟨40, _, rfl, by decide⟩
    | cons x r => exact ⟨40, _, rfl, by decide⟩
end
theorem shownAll_map : ∀ ds : List PyData, PyData.shownAll ds = ds.map PyData.shown
  | [] => by simp [PyData.shownAll]
  | d :: r => by rw [PyData.shownAll, shownAll_map r, List.map_cons]
theorem shown_dN {t : List Str} (h : ∀ x ∈ t, isNameS x = true) : T (PyData.shown (dN t)) = tupT (t.map nameT) := by
  unfold dN
  rw [PyData.shown, shownAll_map, tuple_T, List.map_map, List.map_map]
  congr 1
  refine List.map_congr_left fun x hx => ?_
  show T (PyData.shown (.str x)) = nameT x
  rw [PyData.shown]
  exact repr_name (h x hx)
theorem shown_dT {ts : List (List Str)} (h : ∀ t ∈ ts, ∀ x ∈ t, isNameS x = true) : T (PyData.shown (real (dT ts))) = tupT (ts.map fun t => tupT (t.map nameT)) := by
  have e : real (dT ts) = dT ts := by
    unfold dT
    rw [real, reals_dN]
  rw [e]
  unfold dT
  rw [PyData.shown, shownAll_map, tuple_T, List.map_map, List.map_map]
  congr 1
  refine List.map_congr_left fun t ht => ?_
  exact shown_dN (h t ht)
theorem shown_inj {a b : List (List Str)} (ha : ∀ t ∈ a, ∀ x ∈ t, isNameS x = true) (hb : ∀ t ∈ b, ∀ x ∈ t, isNameS x = true) (h : PyData.shown (real (dT a)) = PyData.shown (real (dT b))) : a = b := by
  have q := congrArg T h
  rw [shown_dT ha, shown_dT hb] at q
  exact ((pre_tup (pre_tup pre_name)).un a b [] [] ha hb (by rw [List.append_nil, List.append_nil]; exact q)).1
end VF
set_option maxHeartbeats 4000000
/-! ## CE. the plain law, whole -/
namespace VF
open PySem L2
theorem map_inj_on {α β : Type} {f : α → β} : ∀ {xs ys : List α}, (∀ a ∈ xs, ∀ b ∈ ys, f a = f b → a = b) → xs.map f = ys.map f → xs = ys
  | [], [], _, _ => rfl
  | [], _ :: _, _, e => by simp at e
  | _ :: _, [], _, e => by simp at e
  | x :: xs, y :: ys, h, e => by
    rw [List.map_cons, List.map_cons, List.cons.injEq] at e
    rw [h x (List.mem_cons_self ..) y (List.mem_cons_self ..) e.1, map_inj_on (fun a ha b hb => h a (List.mem_cons_of_mem _ ha) b (List.mem_cons_of_mem _ hb)) e.2]
section
variable {os : List Str} {rs : List (Bal × Int)}
theorem tl_names (o : OkO os) : ∀ p ∈ tl os rs, ∀ t ∈ p.1, ∀ x ∈ t, isNameS x = true := fun p hp t ht x hx => by
  obtain ⟨r, _, e⟩ := tally_keys _ rs p hp
  rw [e] at ht
  exact o.name x ((tiers_mem (f := heightOf r.1) x).mp (List.mem_flatten.mpr ⟨t, ht, hx⟩))
theorem cntU_perm (o : OkO os) (rs rs2 : List (Bal × Int)) : (cntU os rs).Perm (cntU os rs2) ↔ (tl os rs).Perm (tl os rs2) := by
  unfold cntU
  constructor
  · intro h
    obtain ⟨ns, e, pn⟩ := perm_map h (tl os rs2) rfl
    have q : tl os rs = ns := map_inj_on (fun a ha b hb z => by
      have z1 := congrArg Prod.fst z
      have z2 := congrArg Prod.snd z
      exact Prod.ext (shown_inj (tl_names o a ha) (tl_names o b (pn.subset hb)) z1) z2) e
    rw [q]
    exact pn
  · exact fun h => h.map _
theorem plain_cnt (o : OkO os) (rs rs2 : List (Bal × Int)) : cntD os rs = cntD os rs2 ↔ eqPoll os rs os rs2 = true := by
  unfold cntD
  rw [sorted_iff, cntU_perm o, eqPoll, decide_eq_true rfl, Bool.true_and]
  exact (eqTally_iff (tally_facts _ rs).1 (tally_facts _ rs2).1).symm
theorem rest2_all {Pc : Nat → Prop} (h1 : Pc 41) (h2 : Pc 44) (h3 : Pc 32) : ∀ l : List (List Nat), (∀ x ∈ l, ∀ c ∈ x, Pc c) → ∀ c ∈ rest2 l, Pc c
  | [], _, c, hc => by rw [List.mem_singleton.mp hc]; exact h1
  | x :: r, h, c, hc => by
    have hc' : c ∈ 44 :: 32 :: (x ++ rest2 r) := hc
    rcases List.mem_cons.mp hc' with rfl | hc'
    · exact h2
    rcases List.mem_cons.mp hc' with rfl | hc'
    · exact h3
    rcases List.mem_append.mp hc' with hc' | hc'
    · exact h x (List.mem_cons_self ..) c hc'
    · exact rest2_all h1 h2 h3 r (fun y hy => h y (List.mem_cons_of_mem _ hy)) c hc'
theorem tupT_all {Pc : Nat → Prop} (h0 : Pc 40) (h1 : Pc 41) (h2 : Pc 44) (h3 : Pc 32) : ∀ l : List (List Nat), (∀ x ∈ l, ∀ c ∈ x, Pc c) → ∀ c ∈ tupT l, Pc c
  | [], _, c, hc => by
    have hc' : c ∈ [40, 41] := hc
    rcases List.mem_cons.mp hc' with rfl | hc'
    · exact h0
    · rw [List.mem_singleton.mp hc']
      exact h1
  | [x], h, c, hc => by
    have hc' : c ∈ 40 :: (x ++ [44, 41]) := hc
    rcases List.mem_cons.mp hc' with rfl | hc'
    · exact h0
    rcases List.mem_append.mp hc' with hc' | hc'
    · exact h x (List.mem_cons_self ..) c hc'
    rcases List.mem_cons.mp hc' with rfl | hc'
    · exact h2
    · rw [List.mem_singleton.mp hc']
      exact h1
  | x :: y :: r, h, c, hc => by
    have hc' : c ∈ 40 :: (x ++ rest2 (y :: r)) := hc
    rcases List.mem_cons.mp hc' with rfl | hc'
    · exact h0
    rcases List.mem_append.mp hc' with hc' | hc'
    · exact h x (List.mem_cons_self ..) c hc'
    · exact rest2_all h1 h2 h3 (y :: r) (fun z hz => h z (List.mem_cons_of_mem _ hz)) c hc'
theorem nameT_small {x : Str} (h : isNameS x = true) : ∀ c ∈ nameT x, c < 128 := fun c hc => by
  have hc' : c ∈ 39 :: (T x ++ [39]) := hc
  rcases List.mem_cons.mp hc' with rfl | hc'
  · decide
  rcases List.mem_append.mp hc' with hc' | hc'
  · exact (letters_no c (name_letters h c hc')).2
  · rw [List.mem_singleton.mp hc']
    decide
theorem shown_ok {ts : List (List Str)} (h : ∀ t ∈ ts, ∀ x ∈ t, isNameS x = true) : PyData.strOk (PyData.shown (real (dT ts))) = true := by
  have q : ∀ c ∈ T (PyData.shown (real (dT ts))), c < 128 := by
    rw [shown_dT h]
    refine tupT_all (by decide) (by decide) (by decide) (by decide) _ fun x hx c hc => ?_
    obtain ⟨t, ht, rfl⟩ := List.mem_map.mp hx
    refine tupT_all (Pc := fun c => c < 128) (by decide) (by decide) (by decide) (by decide) _ (fun y hy c hc => ?_) c hc
    obtain ⟨z, hz, rfl⟩ := List.mem_map.mp hy
    exact nameT_small (h t ht z hz) c hc
  unfold PyData.strOk
  rw [← Array.all_toList, List.all_eq_true]
  intro c hc
  have := q c hc
  refine decide_eq_true ?_
  omega
theorem plain_fit (o : OkO os) (rs : List (Bal × Int)) : fit (.list (cntD os rs)) = true := by
  refine (gd_lst (n := 1) fun d hd => ?_).fit (by decide)
  unfold cntD at hd
  obtain ⟨p, hp, rfl⟩ := List.mem_map.mp ((List.mergeSort_perm _ _).subset hd)
  unfold cntU at hp
  obtain ⟨k, hk, rfl⟩ := List.mem_map.mp hp
  exact gd_pair (gd_str (shown_ok (tl_names o k hk))) (gd_int _)
end
theorem plain : Plain := ⟨fun os rs rs2 o _ _ => plain_cnt o rs rs2, fun os rs o _ => plain_fit o rs, fun os rs rs2 _ _ _ => plain_swap os rs rs2⟩
end VF
set_option maxHeartbeats 4000000
/-! ## CF. the law's call, no text under way -/
namespace VF
open PySem L2 PySem.Spec PyProof.Rows
section
variable {P : Program} {w : World} {K : PySem.W.Frag} {mg mb : Str → Option Value} {k : Nat} {fa a : Addr} {fd : FuncData} {x : Str} {sp : List Code → Sp} {s : Shared} {vs : List Value} {ns : List Int}
/-- from a heap in which nothing but the script is known -/
theorem law_from {H : Hp} (KX : K.In s.heap) (hns : s.heap.Ns mainGlobals mg) (hb : s.heap.Ns builtinsNs mb) (hbb : ∀ x : Str, x ≠ "__name__" → mb x = bootBuiltins x) (hlim : s.heap.NoLimit) (hg : s.gens = #[])
    (ha : s.heap.get? a = some { cls := .type "list", data := .seq vs.toArray }) (hr : Room k callerA)
    (F : ∀ base : Heap, K.In base → base.Ns mainGlobals mg → FnG P w K mg base CX0 k fa fd [x] sp) (hbind : ∀ (s : Shared) (u : Value), BindsTo s fd ⟨[u], []⟩ [(x, u)])
    (hO : L2.Only H) (hok : HOk P w H s.heap) (hA : ∀ b, H b ≠ none → b = a) (hK : H a ≠ none → K.lookup a = none) (hsp : sp [] [.ref a] H (fun v _ => v = .bl true) fun _ _ _ => False) :
    codeAny (model P w) callerA (.call (.ref fa) ⟨[.ref a], []⟩) (fun r s' => r = .ok (.ret (.bool true)) ∧ OldK s.heap s'.heap ∧ s'.os = s.os ∧ AllBare s'.gens) s := by
  have out : ∀ {b : Addr}, b ≠ a → H b = none := fun {b} nb => by
    cases q : H b with
    | none => rfl
    | some u => exact absurd (hA b (by rw [q]; exact Option.some_ne_none u)) nb
  have dictOut : ∀ {b : Addr} {o : Obj} {es : Array DictEntry} {ep : Nat}, s.heap.get? b = some o → o.data = .dict es ep → H b = none := fun {b o es ep} e d => out fun z => by
    rw [z, ha] at e
    cases e
    cases d
  have ns' : ∀ {b : Addr} {m : Str → Option Value}, s.heap.Ns b m → (hidT s.heap H).Ns b m := fun {b m} h => by
    obtain ⟨o, es, ep, e, d, r⟩ := h
    exact ⟨o, es, ep, hidT_get e (dictOut e d), d, r⟩
  have KX' : K.In (hidT s.heap H) := fun b o e => hidT_get (KX b o e) (by
    by_cases z : b = a
    · cases q : H b with
      | none => rfl
      | some u =>
        rw [z] at e q
        rw [hK (by rw [q]; exact Option.some_ne_none u)] at e
        cases e
    · exact out z)
  have mod : Mod K mg (hidT s.heap H) := ⟨KX', ns' hns, ⟨mb, ns' hb, hbb⟩, by
    obtain ⟨mc, h1, h2⟩ := hlim
    exact ⟨mc, ns' h1, h2⟩⟩
  have nofr : ∀ b, b ∉ ([] : List Addr) := fun b h => nomatch h
  have e0 : Env0 P w K mg (hidT s.heap H) callerA [] s H := ⟨rfl, mod, fun b o e => of_hidT e, Nat.le_of_eq (hidT_size _ _), trivial, fun b hb => absurd (show b ∈ ([] : List Addr) from hb) (nofr b), hok, .of_eq hg⟩
  refine codeAny_mono ((F _ KX' (ns' hns)).run [] callerA [] s H ⟨[.ref a], []⟩ [.ref a] [.ref a] _ _ hr rfl e0 (hbind s (.ref a)) (.cons rfl .nil) hsp) fun r s' h => ?_
  match r, h with
  | .error e, h => exact False.elim h
  | .ok .next, h => exact False.elim h
  | .ok .brk, h => exact False.elim h
  | .ok .cont, h => exact False.elim h
  | .ok (.ret u), h =>
    obtain ⟨v, H', os, bare, un, hok', ru, q⟩ := h
    have q' : v = .bl true := q
    subst q'
    have eu : u = Value.bool true := ru
    subst eu
    refine ⟨rfl, OldK.of_keep fun b o e => ?_, os, bare⟩
    rcases hO b with z | ⟨ob, ys, z⟩
    · exact un.keep b o e z (fun hm => absurd (show b ∈ ([] : List Addr) from hm) (nofr b)) (by simp)
    · obtain ⟨e1, _⟩ := hok b _ z
      obtain ⟨e2, _⟩ := hok' b _ (un.frzs b ob _ z)
      rw [e] at e1
      cases e1
      exact e2
end
end VF
set_option maxHeartbeats 4000000
/-! ## CG. the law's walk for the head -/
namespace VF
open PySem L2 PySem.Spec PyProof.Rows
/-- what the script's heap knows -/
def onlyA (a : Addr) (o : HO) : Hp := fun b => if b = a then some o else none
theorem onlyA_at {a : Addr} {o : HO} : onlyA a o a = some o := if_pos rfl
theorem onlyA_ne {a b : Addr} {o : HO} (h : b ≠ a) : onlyA a o b = none := if_neg h
theorem walkG {l : PySem.W.OpenLaw} {n k : Nat} {q : Program} {loose : List Str} {XP : (Str → Option Value) → Heap → Prop} {YP : World → Heap → Prop} {d : DefRec} {K : Params → PySem.W.Frag} {sp : PySem.W.Frag → List Code → Sp} {x : Str}
    (hn : l.most = some n) (hn2 : n ≤ sizeLine) (hdf : d.params.defaults = []) (hr : Room k callerA)
    (hY : ∀ (w : World) (h : Heap), YP w h → (K w.params).In h)
    (F : ∀ (w : World) (mg : Str → Option Value) (fa : Addr) (h : Heap), (K w.params).In h → h.Ns mainGlobals mg → mg d.name = some (.ref fa) →
      ∃ fd : FuncData, (∀ (s : Shared) (u : Value), BindsTo s fd ⟨[u], []⟩ [(x, u)]) ∧
        ∀ base : Heap, (K w.params).In base → base.Ns mainGlobals mg → FnG l.prog w (K w.params) mg base CX0 k fa fd [x] (sp (K w.params)))
    (hsp : ∀ (K : PySem.W.Frag) (H : Hp) (a : Addr) (ns : List Int), ns.length ≤ n → SqL K H a (ns.map V.int) → sp K [] [.ref a] H (fun v _ => v = .bl true) fun _ _ _ => False) :
    PySem.W.WalkO q loose XP YP l.row.toRowW d [] (fun f vs => PySem.call f vs) := by
  refine Att.attach_call hn hdf fun w s₀ s mg mb fa o pm cd doc a vs ns G Y ho hd hcd hmg hobj hints hlen hg => ?_
  have KX := hY w _ Y
  obtain ⟨fd, hb, hF⟩ := F w mg fa _ KX G.T.g hmg
  have rv := vals_ints hints
  have lv := hints.length
  have hl : ns.length ≤ sizeLine := Nat.le_trans hlen hn2
  cases hk : (K w.params).lookup a with
  | some o1 =>
    have e := KX a o1 hk
    rw [hobj] at e
    cases e
    exact law_from (H := fun _ => none) KX G.T.g G.T.b G.T.builtins G.T.nolimit hg hobj hr hF hb (fun _ => .inl rfl) (fun b u z => nomatch z) (fun b z => absurd rfl z) (fun z => absurd rfl z)
      (hsp _ _ a ns hlen (.inr ⟨_, vs.toArray, _, hk, rfl, rfl, rfl, by rw [List.size_toArray, lv]; exact hl, by simpa using rv⟩))
  | none =>
    refine law_from (H := onlyA a (.frz { cls := .type "list", data := .seq vs.toArray } (.lst (ns.map V.int)))) KX G.T.g G.T.b G.T.builtins G.T.nolimit hg hobj hr hF hb (fun b => ?_) (fun b u z => ?_) (fun b z => ?_) (fun _ => hk)
      (hsp _ _ a ns hlen (.inl (.inr ⟨_, onlyA_at⟩)))
    · by_cases e : b = a
      · rw [e]
        exact .inr ⟨_, _, onlyA_at⟩
      · exact .inl (onlyA_ne e)
    · by_cases e : b = a
      · subst e
        rw [onlyA_at] at z
        cases z
        exact ⟨hobj, by rw [List.length_map]; exact hl, vs, _, rv, hobj⟩
      · rw [onlyA_ne e] at z
        cases z
    · by_cases e : b = a
      · exact e
      · exact absurd (onlyA_ne e) z
end VF
set_option maxHeartbeats 4000000
/-! ## CH. what the top has written: defs, methods -/
namespace VF
open PySem L2
section
variable {P : Program} {w : World} {K : PySem.W.Frag} {mg : Str → Option Value} {base h : Heap}
/-- a def of the top, no defaults -/
structure DefK (K : PySem.W.Frag) (x : Str) (st : Stmt) : Prop where
  ex : ∃ (f : Addr) (fd : FuncData), PySem.W.nsIn K mainGlobals x = some (some (.ref f)) ∧ Fun K x x st f fd ∧ PySem.W.keepIn K (.ref f) = true
theorem def_mk {x : Str} {st : Stmt} {f : Addr} {oc : Value} {od an : Option Addr} {osl : Array (Option Value)} {kV doc pm cdv ct : Value} (a : PySem.W.nsIn K mainGlobals x = some (some (.ref f)))
    (l : K.lookup f = some ⟨oc, od, .func (PySem.W.fnOf x x (defArgs st) (defBody st) (defScope st) .none kV doc pm an cdv ct), osl⟩) (c : PySem.W.codeIn K cdv x = true) (k : PySem.W.keepIn K (.ref f) = true) : DefK K x st := ⟨f, _, a, fun_mk l c k, k⟩
/-- a method, no defaults -/
structure MetD (K : PySem.W.Frag) (C : Addr) (x qual : Str) (st : Stmt) : Prop where
  ex : ∃ (f : Addr) (fd : FuncData), PySem.W.findIn K (.ref C) x = some (some (.ref f)) ∧ PySem.W.isFn K (.ref f) = true ∧ Fun K x qual st f fd ∧ PySem.W.keepIn K (.ref f) = true
theorem met_mk {C : Addr} {x qual : Str} {st : Stmt} {f : Addr} {oc : Value} {od an : Option Addr} {osl : Array (Option Value)} {kV doc pm cdv ct : Value} (a : PySem.W.findIn K (.ref C) x = some (some (.ref f))) (i : PySem.W.isFn K (.ref f) = true)
    (l : K.lookup f = some ⟨oc, od, .func (PySem.W.fnOf x qual (defArgs st) (defBody st) (defScope st) .none kV doc pm an cdv ct), osl⟩) (c : PySem.W.codeIn K cdv qual = true) (k : PySem.W.keepIn K (.ref f) = true) : MetD K C x qual st := ⟨f, _, a, i, fun_mk l c k, k⟩
/-- how such a def binds -/
abbrev Bnd (x qual : Str) (st : Stmt) (ps : List Str) : Prop := ∀ (kV doc pm : Value) (an : Option Addr) (cdv ct : Value) (us : List Value), us.length = ps.length → bindArgs (PySem.W.fnOf x qual (defArgs st) (defBody st) (defScope st) .none kV doc pm an cdv ct) ⟨us, []⟩ = pure (ps.zip us)
theorem cal_mk {x : Str} {st : Stmt} {ps : List Str} {k : Nat} {sp : Sp} (d : DefK K x st) (X : K.In h) (G : h.Ns mainGlobals mg) (hb : Bnd x x st ps) (ok : ∀ f fd, Fun K x x st f fd → FnOk P w K mg base CX0 k f fd ps sp) : C8.Cal P w K mg base k x sp [] := by
  obtain ⟨f, fd, a, F, kp⟩ := d.ex
  exact ⟨f, fd, ps, [], ok f fd F, PySem.W.mg_of X G a, kp, F.binds hb, .nil⟩
theorem calG_mk {x : Str} {st : Stmt} {ps : List Str} {k : Nat} {sp : List Code → Sp} (d : DefK K x st) (X : K.In h) (G : h.Ns mainGlobals mg) (hb : Bnd x x st ps) (ok : ∀ f fd, Fun K x x st f fd → FnG P w K mg base CX0 k f fd ps sp) : CalG P w K mg base k x sp := by
  obtain ⟨f, fd, a, F, kp⟩ := d.ex
  exact ⟨f, fd, ps, ok f fd F, PySem.W.mg_of X G a, kp, F.binds hb⟩
theorem b1 {x : Str} {st : Stmt} {p : Str} (h : ∀ (kV doc pm : Value) (an : Option Addr) (cdv ct u : Value), bindArgs (PySem.W.fnOf x x (defArgs st) (defBody st) (defScope st) .none kV doc pm an cdv ct) ⟨[u], []⟩ = pure [(p, u)]) : Bnd x x st [p] := fun kV doc pm an cdv ct us hl => match us, hl with | [u], _ => h kV doc pm an cdv ct u
theorem bt7 : Bnd "is_whole" "is_whole" s7 ["thing"] := fun _ _ _ _ _ _ us hl => match us, hl with | [_], _ => rfl
end
end VF
set_option maxHeartbeats 4000000
/-! ## CI. how the defs bind -/
namespace VF
open PySem L2
theorem bnd_s7 : Bnd "is_whole" "is_whole" s7 ["thing"] := fun _ _ _ _ _ _ us hl => match us, hl with | [_], _ => rfl
theorem bnd_s8 : Bnd "is_name" "is_name" s8 ["thing"] := fun _ _ _ _ _ _ us hl => match us, hl with | [_], _ => rfl
theorem bnd_s9 : Bnd "are_unlike" "are_unlike" s9 ["some"] := fun _ _ _ _ _ _ us hl => match us, hl with | [_], _ => rfl
theorem bnd_s10 : Bnd "are_some_of" "are_some_of" s10 ["some", "options"] := fun _ _ _ _ _ _ us hl => match us, hl with | [_, _], _ => rfl
theorem bnd_s13 : Bnd "are_tiers" "are_tiers" s13 ["thing", "options"] := fun _ _ _ _ _ _ us hl => match us, hl with | [_, _], _ => rfl
theorem bnd_s14 : Bnd "are_marks" "are_marks" s14 ["thing", "options"] := fun _ _ _ _ _ _ us hl => match us, hl with | [_, _], _ => rfl
theorem bnd_s15 : Bnd "is_ballot" "is_ballot" s15 ["options", "ballot"] := fun _ _ _ _ _ _ us hl => match us, hl with | [_, _], _ => rfl
theorem bnd_s16 : Bnd "heights_of" "heights_of" s16 ["options", "ballot"] := fun _ _ _ _ _ _ us hl => match us, hl with | [_, _], _ => rfl
theorem bnd_s17 : Bnd "tiers" "tiers" s17 ["options", "ballot"] := fun _ _ _ _ _ _ us hl => match us, hl with | [_, _], _ => rfl
theorem bnd_s19 : Bnd "ballot_without" "ballot_without" s19 ["ballot", "names"] := fun _ _ _ _ _ _ us hl => match us, hl with | [_, _], _ => rfl
theorem bnd_s24 : Bnd "are_options" "are_options" s24 ["thing"] := fun _ _ _ _ _ _ us hl => match us, hl with | [_], _ => rfl
theorem bnd_s25 : Bnd "is_row" "is_row" s25 ["options", "row"] := fun _ _ _ _ _ _ us hl => match us, hl with | [_, _], _ => rfl
theorem bnd_s28 : Bnd "_law_cell_at" "_law_cell_at" s28 ["_law_script", "_law_k"] := fun _ _ _ _ _ _ us hl => match us, hl with | [_, _], _ => rfl
theorem bnd_s29 : Bnd "_law_well" "_law_well" s29 ["_law_cell"] := fun _ _ _ _ _ _ us hl => match us, hl with | [_], _ => rfl
theorem bnd_s30 : Bnd "_law_draw" "_law_draw" s30 ["_law_well_here", "_law_size"] := fun _ _ _ _ _ _ us hl => match us, hl with | [_, _], _ => rfl
theorem bnd_s31 : Bnd "_law_one" "_law_one" s31 ["_law_well_here", "_law_some"] := fun _ _ _ _ _ _ us hl => match us, hl with | [_, _], _ => rfl
theorem bnd_s32 : Bnd "_law_options" "_law_options" s32 ["_law_well_here", "_law_size"] := fun _ _ _ _ _ _ us hl => match us, hl with | [_, _], _ => rfl
theorem bnd_s33 : Bnd "_law_shuffled" "_law_shuffled" s33 ["_law_well_here", "_law_some"] := fun _ _ _ _ _ _ us hl => match us, hl with | [_, _], _ => rfl
theorem bnd_s34 : Bnd "_law_tiers_drawn" "_law_tiers_drawn" s34 ["_law_well_here", "_law_some"] := fun _ _ _ _ _ _ us hl => match us, hl with | [_, _], _ => rfl
theorem bnd_s35 : Bnd "_law_ballot" "_law_ballot" s35 ["_law_well_here", "_law_options_here"] := fun _ _ _ _ _ _ us hl => match us, hl with | [_, _], _ => rfl
theorem bnd_s36 : Bnd "_law_rows" "_law_rows" s36 ["_law_well_here", "_law_options_here", "_law_size"] := fun _ _ _ _ _ _ us hl => match us, hl with | [_, _, _], _ => rfl
theorem bnd_s37 : Bnd "_law_high" "_law_high" s37 ["_law_options_here", "_law_ballot_here"] := fun _ _ _ _ _ _ us hl => match us, hl with | [_, _], _ => rfl
theorem bnd_s38 : Bnd "_law_tiers" "_law_tiers" s38 ["_law_options_here", "_law_ballot_here"] := fun _ _ _ _ _ _ us hl => match us, hl with | [_, _], _ => rfl
theorem bnd_s39 : Bnd "_law_told_anew" "_law_told_anew" s39 ["_law_well_here", "_law_options_here", "_law_ballot_here"] := fun _ _ _ _ _ _ us hl => match us, hl with | [_, _, _], _ => rfl
theorem bnd_s40 : Bnd "_law_other" "_law_other" s40 ["_law_well_here", "_law_options_here", "_law_rows_here"] := fun _ _ _ _ _ _ us hl => match us, hl with | [_, _, _], _ => rfl
theorem bnd_s41 : Bnd "_law_counted" "_law_counted" s41 ["_law_options_here", "_law_rows_here"] := fun _ _ _ _ _ _ us hl => match us, hl with | [_, _], _ => rfl
theorem bnd_s42 : Bnd "_law_cut" "_law_cut" s42 ["_law_poll", "_law_some"] := fun _ _ _ _ _ _ us hl => match us, hl with | [_, _], _ => rfl
theorem bnd_s43 : Bnd "_law_unjoined" "_law_unjoined" s43 ["_law_options_here", "_law_rows_here"] := fun _ _ _ _ _ _ us hl => match us, hl with | [_, _], _ => rfl
theorem bnd_s44 : Bnd "_law_slip_cut" "_law_slip_cut" s44 ["_law_slip", "_law_some"] := fun _ _ _ _ _ _ us hl => match us, hl with | [_, _], _ => rfl
theorem bnd_s45 : Bnd "_law_cut_right" "_law_cut_right" s45 ["_law_poll", "_law_some"] := fun _ _ _ _ _ _ us hl => match us, hl with | [_, _], _ => rfl
theorem bnd_Poll___eq__ : Bnd "__eq__" "Poll.__eq__" (cP 1) ["self", "other"] := fun _ _ _ _ _ _ us hl => match us, hl with | [_, _], _ => rfl
theorem bnd_Poll___repr__ : Bnd "__repr__" "Poll.__repr__" (cP 2) ["self"] := fun _ _ _ _ _ _ us hl => match us, hl with | [_], _ => rfl
theorem bnd_Poll_by_tiers : Bnd "by_tiers" "Poll.by_tiers" (cP 3) ["self"] := fun _ _ _ _ _ _ us hl => match us, hl with | [_], _ => rfl
theorem bnd_Poll_joined : Bnd "joined" "Poll.joined" (cP 5) ["self", "other"] := fun _ _ _ _ _ _ us hl => match us, hl with | [_, _], _ => rfl
theorem bnd_Poll_only : Bnd "only" "Poll.only" (cP 6) ["self", "names"] := fun _ _ _ _ _ _ us hl => match us, hl with | [_, _], _ => rfl
theorem bnd_NoOption___init__ : Bnd "__init__" "NoOption.__init__" c3 ["self", "name"] := fun _ _ _ _ _ _ us hl => match us, hl with | [_, _], _ => rfl
end VF
set_option maxHeartbeats 4000000
/-! ## CJ. what the top has written: the classes -/
namespace VF
open PySem L2
/-- the class Poll, as it stands -/
structure PollF (K : PySem.W.Frag) (C : Addr) : Prop where
  ns : PySem.W.nsIn K mainGlobals "Poll" = some (some (.ref C))
  pg : PySem.W.plainGet K C Str.empty = true
  hd : PySem.W.hasDictIn K C = true
  po : PySem.W.plainOver K C = true
  sa : PySem.W.findIn K (.ref C) "__setattr__" = some (some (.builtin "object.__setattr__"))
  mkI : PySem.W.makesIn K C = true
  kc : PySem.W.keepIn K (.ref C) = true
  nO : PySem.W.findIn K (.ref C) "options" = some none
  nV : PySem.W.findIn K (.ref C) "voices" = some none
  cc : PySem.W.findIn K (.ref C) "__class__" = some (some (.builtin "object.__class__"))
  cg : PySem.W.specialIn K (.builtin "object.__class__") "__get__" = some (some (.builtin "getset_descriptor.__get__"))
  ct : PySem.W.takesIn K (.builtin "object.__class__") = some true
  cm : PySem.W.mroIn K C (.type "object") = some true
  self : PySem.W.kitOne K (.ref C) (.ref C) = some true
  str : PySem.W.kitOne K (.type "str") (.ref C) = some false
  tup : PySem.W.kitOne K (.type "tuple") (.ref C) = some false
  ne : PySem.W.findIn K (.ref C) "__ne__" = some (some (.builtin "object.__ne__"))
  ob : PySem.W.subIn K (.ref C) (.type "object") = some true
  nfS : PySem.W.notFirst K C (.type "str") = true
  nfT : PySem.W.notFirst K C (.type "tuple") = true
section
variable {P : Program} {w : World} {K : PySem.W.Frag} {mg : Str → Option Value} {base h : Heap} {C CB CN : Addr}
theorem PollF.cls (F : PollF K C) : Cls K C := ⟨F.pg, F.hd, F.po, F.sa⟩
theorem PollF.polC (F : PollF K C) (X : K.In h) (G : h.Ns mainGlobals mg) : PolC K mg C := ⟨F.cls, F.nO, F.nV, PySem.W.mg_of X G F.ns⟩
theorem PollF.polI (F : PollF K C) : PolI K C := ⟨fun H a dx fs e => .base (.ins e F.cls F.cc F.cg F.ct F.cm), F.self, F.str, F.tup⟩
/-- a def with one default, all its parameters written -/
theorem binds_all {x qual : Str} {params : Arguments} {body : List Stmt} {scope : Scope} {v : V} {f : Addr} {fd : FuncData} {ps : List Str} (F : FunD K x qual params body scope [v] [] f fd)
    (h : ∀ (T : Addr) (kV doc pm : Value) (an : Option Addr) (cdv ct : Value) (us its : List Value), us.length = ps.length → its.length = 1 →
      ∃ k, bindArgs (PySem.W.fnOf x qual params body scope (.ref T) kV doc pm an cdv ct) ⟨us, []⟩ = seqItems? (.ref T) >>= k ∧ k (some its.toArray) = pure (ps.zip us)) : Binds K fd ps [] := by
  obtain ⟨ds, r, b⟩ := F.binds1 (ps := ps) ps.length 1 (by simp) (by simp) fun T kV doc pm an cdv ct us its l1 l2 => by
    obtain ⟨k, e1, e2⟩ := h T kV doc pm an cdv ct us its l1 l2
    refine ⟨k, e1, ?_⟩
    rw [e2]
    have : its.drop 1 = [] := List.drop_of_length_le (by rw [l2]; exact Nat.le_refl _)
    rw [this, List.append_nil]
  cases r
  exact b
theorem bnd_pe {T : Addr} {kV doc pm : Value} {an : Option Addr} {cdv ct : Value} {us its : List Value} (h1 : us.length = 2) (h2 : its.length = 1) :
    ∃ k, bindArgs (PySem.W.fnOf "__init__" "PollError.__init__" (defArgs c1) (defBody c1) (defScope c1) (.ref T) kV doc pm an cdv ct) ⟨us, []⟩ = seqItems? (.ref T) >>= k ∧ k (some its.toArray) = pure ((["self", "why"] : List Str).zip us) := by
  match us, its, h1, h2 with
  | [u, v], [z], _, _ => exact ⟨_, rfl, rfl⟩
theorem bnd_init {T : Addr} {kV doc pm : Value} {an : Option Addr} {cdv ct : Value} {us its : List Value} (h1 : us.length = 3) (h2 : its.length = 1) :
    ∃ k, bindArgs (PySem.W.fnOf "__init__" "Poll.__init__" (defArgs (cP 0)) (defBody (cP 0)) (defScope (cP 0)) (.ref T) kV doc pm an cdv ct) ⟨us, []⟩ = seqItems? (.ref T) >>= k ∧ k (some its.toArray) = pure ((["self", "options", "voices"] : List Str).zip us) := by
  match us, its, h1, h2 with
  | [u, v, x], [z], _, _ => exact ⟨_, rfl, rfl⟩
theorem bnd_init1 {T : Addr} {kV doc pm : Value} {an : Option Addr} {cdv ct : Value} {us its : List Value} (h1 : us.length = 2) (h2 : its.length = 1) :
    ∃ k, bindArgs (PySem.W.fnOf "__init__" "Poll.__init__" (defArgs (cP 0)) (defBody (cP 0)) (defScope (cP 0)) (.ref T) kV doc pm an cdv ct) ⟨us, []⟩ = seqItems? (.ref T) >>= k ∧ k (some its.toArray) = pure ((["self", "options", "voices"] : List Str).zip (us ++ its.drop 0)) := by
  match us, its, h1, h2 with
  | [u, v], [z], _, _ => exact ⟨_, rfl, rfl⟩
end
end VF
set_option maxHeartbeats 4000000
/-! ## CK. the errors and the inits, as they stand -/
namespace VF
open PySem L2
/-- a def with one default value u at T -/
structure IniF (K : PySem.W.Frag) (C : Addr) (qual : Str) (st : Stmt) (v : V) : Prop where
  ex : ∃ (f : Addr) (fd : FuncData), PySem.W.findIn K (.ref C) "__init__" = some (some (.ref f)) ∧ PySem.W.isFn K (.ref f) = true ∧ PySem.W.typeIn K (.ref f) = some (.type "function") ∧ FunD K "__init__" qual (defArgs st) (defBody st) (defScope st) [v] [] f fd
theorem ini_mk {K : PySem.W.Frag} {C f T : Addr} {qual : Str} {st : Stmt} {v : V} {u : Value} {oc oc2 : Value} {od an od2 : Option Addr} {osl osl2 : Array (Option Value)} {kV doc pm cdv ct : Value} {n : Nat} (a : PySem.W.findIn K (.ref C) "__init__" = some (some (.ref f))) (i : PySem.W.isFn K (.ref f) = true) (t : PySem.W.typeIn K (.ref f) = some (.type "function"))
    (l : K.lookup f = some ⟨oc, od, .func (PySem.W.fnOf "__init__" qual (defArgs st) (defBody st) (defScope st) (.ref T) kV doc pm an cdv ct), osl⟩) (c : PySem.W.codeIn K cdv qual = true) (k : PySem.W.keepIn K (.ref f) = true)
    (lT : K.lookup T = some ⟨oc2, od2, .seq #[u] n, osl2⟩) (r : RelV v u) : IniF K C qual st v :=
  ⟨f, _, a, i, t, ⟨⟨oc, od, .ref T, kV, doc, pm, an, cdv, ct, osl, rfl, l, c, .inr ⟨by simp, T, _, [u], n, rfl, lT, rfl, .cons r .nil⟩, .inl rfl⟩, k⟩⟩
end VF
set_option maxHeartbeats 4000000
/-! ## CL. all that the top has written, joined -/
namespace VF
open PySem L2
theorem bnd_law : Bnd "law" "law" s46 ["_law_script"] := fun _ _ _ _ _ _ us hl => match us, hl with | [_], _ => rfl
theorem kitCls_ref {K : PySem.W.Frag} {t : Value} {C : Addr} {b : Bool} (h2 : PySem.W.isClsIn K C = true) (h3 : PySem.W.typeIn K (.ref C) = some (.type "type")) (h4 : PySem.W.subIn K t (.ref C) = some b) : PySem.W.kitCls K t (.ref C) = some b := by
  have e2 : ((PySem.W.clsIn K C).isSome && PySem.W.typeIn K (.ref C) == some (.type "type")) = true := by
    have h2' : (PySem.W.clsIn K C).isSome = true := h2
    rw [h2', h3] <;> rfl
  show (if ((PySem.W.clsIn K C).isSome && PySem.W.typeIn K (.ref C) == some (.type "type")) = true then PySem.W.subIn K t (.ref C) else none) = some b
  rw [if_pos e2]
  exact h4
theorem kit_self {K : PySem.W.Frag} {C : Addr} : PySem.W.kitOne K (.ref C) (.ref C) = some true := by
  unfold PySem.W.kitOne
  rw [if_pos (beq_self_eq_true _)]
theorem kit_tyC {K : PySem.W.Frag} {C : Addr} {n : String} {b : Bool} (h : PySem.W.kitCls K (.type n) (.ref C) = some b) : PySem.W.kitOne K (.type n) (.ref C) = some b := by
  unfold PySem.W.kitOne
  rw [if_neg (by simp)]
  exact h
theorem exm_ref {K : PySem.W.Frag} {t : Value} {C : Addr} {b : Bool} (h1 : PySem.W.subIn K (.ref C) (.type "BaseException") = some true) (h : PySem.W.kitCls K t (.ref C) = some b) : PySem.W.exmOne K t (.ref C) = some b := by
  unfold PySem.W.exmOne
  rw [if_pos (beq_iff_eq.mpr h1)]
  exact h

/-- built-in names left alone -/
structure BtF (K : PySem.W.Frag) : Prop where
  isi : PySem.W.nsIn K mainGlobals "isinstance" = some none
  tyInt : PySem.W.nsIn K mainGlobals "int" = some none
  tyBool : PySem.W.nsIn K mainGlobals "bool" = some none
  tyStr : PySem.W.nsIn K mainGlobals "str" = some none
  tyTup : PySem.W.nsIn K mainGlobals "tuple" = some none
  tyLst : PySem.W.nsIn K mainGlobals "list" = some none
  tyDct : PySem.W.nsIn K mainGlobals "dict" = some none
  tySet : PySem.W.nsIn K mainGlobals "set" = some none
  rng : PySem.W.nsIn K mainGlobals "range" = some none
  enm : PySem.W.nsIn K mainGlobals "enumerate" = some none
  len : PySem.W.nsIn K mainGlobals "len" = some none
  all : PySem.W.nsIn K mainGlobals "all" = some none
  srt : PySem.W.nsIn K mainGlobals "sorted" = some none
  rpr : PySem.W.nsIn K mainGlobals "repr" = some none
  vE : PySem.W.nsIn K mainGlobals "ValueError" = some none
  kE : PySem.W.nsIn K mainGlobals "KeyError" = some none
theorem BtF.bt {K : PySem.W.Frag} {h : Heap} {mg : Str → Option Value} (F : BtF K) (X : K.In h) (G : h.Ns mainGlobals mg) : Bt mg := ⟨PySem.W.mg_none_of X G F.isi, PySem.W.mg_none_of X G F.tyInt, PySem.W.mg_none_of X G F.tyBool, PySem.W.mg_none_of X G F.tyStr, PySem.W.mg_none_of X G F.tyTup, PySem.W.mg_none_of X G F.tyLst, PySem.W.mg_none_of X G F.tyDct, PySem.W.mg_none_of X G F.tySet, PySem.W.mg_none_of X G F.rng, PySem.W.mg_none_of X G F.enm, PySem.W.mg_none_of X G F.len, PySem.W.mg_none_of X G F.all, PySem.W.mg_none_of X G F.srt, PySem.W.mg_none_of X G F.rpr, PySem.W.mg_none_of X G F.vE, PySem.W.mg_none_of X G F.kE⟩
/-- a constant of the top -/
structure ConF (K : PySem.W.Frag) (x : Str) (v : V) : Prop where
  ex : ∃ u, PySem.W.nsIn K mainGlobals x = some (some u) ∧ RelV v u
theorem con_mk {K : PySem.W.Frag} {x : Str} {v : V} {u : Value} (a : PySem.W.nsIn K mainGlobals x = some (some u)) (r : RelV v u) : ConF K x v := ⟨u, a, r⟩
theorem ConF.mg {K : PySem.W.Frag} {h : Heap} {mg : Str → Option Value} {x : Str} {v : V} (F : ConF K x v) (X : K.In h) (G : h.Ns mainGlobals mg) : ∃ u, mg x = some u ∧ RelV v u := by
  obtain ⟨u, a, r⟩ := F.ex
  exact ⟨u, PySem.W.mg_of X G a, r⟩
structure CnF (K : PySem.W.Frag) : Prop where
  letters : ConF K "LETTERS" (.str alph)
  mostL : ConF K "MOST_LETTERS" (.int 8)
  mostM : ConF K "MOST_MARK" (.int 9)
  mostO : ConF K "MOST_OPTIONS" (.int 6)
  mostR : ConF K "MOST_ROWS" (.int 30)
  mostV : ConF K "MOST_VOICES" (.int 1000000)
theorem CnF.cn {K : PySem.W.Frag} {h : Heap} {mg : Str → Option Value} (F : CnF K) (X : K.In h) (G : h.Ns mainGlobals mg) : Cn mg := ⟨F.letters.mg X G, F.mostL.mg X G, F.mostM.mg X G, F.mostO.mg X G, F.mostR.mg X G, F.mostV.mg X G⟩
/-- the defs of the top -/
structure DefF (K : PySem.W.Frag) : Prop where
  d7 : DefK K "is_whole" s7
  d8 : DefK K "is_name" s8
  d9 : DefK K "are_unlike" s9
  d10 : DefK K "are_some_of" s10
  d13 : DefK K "are_tiers" s13
  d14 : DefK K "are_marks" s14
  d15 : DefK K "is_ballot" s15
  d16 : DefK K "heights_of" s16
  d17 : DefK K "tiers" s17
  d18 : DefK K "ask_options" s18
  d19 : DefK K "ballot_without" s19
  d24 : DefK K "are_options" s24
  d25 : DefK K "is_row" s25
  d28 : DefK K "_law_cell_at" s28
  d29 : DefK K "_law_well" s29
  d30 : DefK K "_law_draw" s30
  d31 : DefK K "_law_one" s31
  d32 : DefK K "_law_options" s32
  d33 : DefK K "_law_shuffled" s33
  d34 : DefK K "_law_tiers_drawn" s34
  d35 : DefK K "_law_ballot" s35
  d36 : DefK K "_law_rows" s36
  d37 : DefK K "_law_high" s37
  d38 : DefK K "_law_tiers" s38
  d39 : DefK K "_law_told_anew" s39
  d40 : DefK K "_law_other" s40
  d41 : DefK K "_law_counted" s41
  d42 : DefK K "_law_cut" s42
  d43 : DefK K "_law_unjoined" s43
  d44 : DefK K "_law_slip_cut" s44
  d45 : DefK K "_law_cut_right" s45
  d46 : DefK K "law" s46
/-- the methods of Poll -/
structure MetF (K : PySem.W.Frag) (C aE : Addr) : Prop where
  eq : MetD K C "__eq__" "Poll.__eq__" (cP 1)
  rp : MetD K C "__repr__" "Poll.__repr__" (cP 2)
  bt : MetD K C "by_tiers" "Poll.by_tiers" (cP 3)
  jn : MetD K C "joined" "Poll.joined" (cP 5)
  on : MetD K C "only" "Poll.only" (cP 6)
  ini : IniF K C "Poll.__init__" (cP 0) (.ref aE)
  sqE : ∀ H : Hp, SqT K H aE []
theorem sqE_mk {K : PySem.W.Frag} {aE : Addr} {oc : Value} {od : Option Addr} {n : Nat} {sl : Array (Option Value)} (l : K.lookup aE = some ⟨oc, od, .seq #[] n, sl⟩) (c : oc = .type "tuple") (H : Hp) : SqT K H aE [] := .inr ⟨_, #[], n, l, c, rfl, Nat.zero_le _, .nil⟩
theorem oexc_mk {K : PySem.W.Frag} {C : Addr} {nm q : Str} {N : Addr} {bs bm : List Value} {sn : List Str} {sub : List Value} {ab : Bool} {col : Option Bool} {dd : Option Addr} {k0 k1 k2 k3 k5 : Option Value}
    (l : K.lookup C = some (excClassObj nm q C N bs bm true sn sub ab col dd k0 k1 k2 k3 k5 "ValueError.__new__")) (m : PySem.HandSPX.refsVE bm = true) (sa : PySem.W.findIn K (.ref C) "__setattr__" = some (some (.builtin "object.__setattr__")))
    (ex : PySem.W.subIn K (.ref C) (.type "BaseException") = some true) (ty : PySem.W.typeIn K (.ref C) = some (.type "type")) (kC : PySem.W.keepIn K (.ref C) = true) : OexC K C := ⟨⟨_, _, _, _, _, _, _, _, _, _, _, _, _, _, _, l, m⟩, sa, ex, ty, kC⟩
theorem oexk_mk {K : PySem.W.Frag} {C : Addr} {nm q : Str} {N : Addr} {bs bm : List Value} {sn : List Str} {sub : List Value} {ab : Bool} {col : Option Bool} {dd : Option Addr} {k0 k1 k2 k3 k5 : Option Value}
    (l : K.lookup C = some (excClassObj nm q C N bs bm true sn sub ab col dd k0 k1 k2 k3 k5 keN)) (m : bm = keTail) (sa : PySem.W.findIn K (.ref C) "__setattr__" = some (some (.builtin "object.__setattr__")))
    (ex : PySem.W.subIn K (.ref C) (.type "BaseException") = some true) (ty : PySem.W.typeIn K (.ref C) = some (.type "type")) (kC : PySem.W.keepIn K (.ref C) = true) : OexK K C := by
  subst m
  exact ⟨⟨_, _, _, _, _, _, _, _, _, _, _, _, _, _, l⟩, sa, ex, ty, kC⟩
/-- the errors -/
structure ErrF (K : PySem.W.Frag) (CB CN : Addr) : Prop where
  nsB : PySem.W.nsIn K mainGlobals "BadPoll" = some (some (.ref CB))
  tB : OexC K CB
  bB : PySem.W.findIn K (.ref CB) "why" = some none
  iB : ∃ v : V, IniF K CB "PollError.__init__" c1 v
  nsN : PySem.W.nsIn K mainGlobals "NoOption" = some (some (.ref CN))
  tN : OexK K CN
  bN : PySem.W.findIn K (.ref CN) "name" = some none
  iN : MetD K CN "__init__" "NoOption.__init__" c3
  xf : XfC K CN
  cB : PySem.W.isClsIn K CB = true
  cN : PySem.W.isClsIn K CN = true
  sBB : PySem.W.subIn K (.ref CB) (.ref CB) = some true
  sNB : PySem.W.subIn K (.ref CN) (.ref CB) = some false
  sNN : PySem.W.subIn K (.ref CN) (.ref CN) = some true
  vV : PySem.W.findCls K (.type "ValueError") (.type "type") "__init__" = some (.val (.builtin "ValueError.__init__"))
  vK : PySem.W.findCls K (.type "KeyError") (.type "type") "__init__" = some (.val (.builtin "KeyError.__init__"))
theorem ErrF.exm {K : PySem.W.Frag} {CB CN : Addr} (F : ErrF K CB CN) : ExmC K CB CN :=
  ⟨exm_ref F.tB.exC (kitCls_ref F.cB F.tB.tyC F.sBB), exm_ref F.tB.exC (kitCls_ref F.cB F.tB.tyC F.sNB), exm_ref F.tN.exC (kitCls_ref F.cN F.tN.tyC F.sNN), F.xf, F.bN⟩
theorem fn_ty {K : PySem.W.Frag} {f : Addr} (h : PySem.W.isFn K (.ref f) = true) : PySem.W.typeIn K (.ref f) = some (.type "function") := beq_iff_eq.mp h
section
variable {P : Program} {w : World} {K : PySem.W.Frag} {mg : Str → Option Value} {base h : Heap} {C CB CN aE : Addr}
theorem ErrF.badC (F : ErrF K CB CN) (B : Bt mg) (X : K.In h) (G : h.Ns mainGlobals mg) : BadC P w K mg base CB := by
  obtain ⟨v, f, fd, a, i, t, D⟩ := F.iB
  exact ⟨F.tB, F.bB, PySem.W.mg_of X G F.nsB, f, fd, a, t, ok_pe D B F.vV, binds_all D fun T kV doc pm an cdv ct us its l1 l2 => bnd_pe l1 l2⟩
theorem ErrF.noC (F : ErrF K CB CN) (B : Bt mg) (X : K.In h) (G : h.Ns mainGlobals mg) : NoC P w K mg base CN := by
  obtain ⟨f, fd, a, i, D, k⟩ := F.iN.ex
  exact ⟨F.tN, F.bN, PySem.W.mg_of X G F.nsN, f, fd, a, fn_ty i, ok_no D B F.vK, D.binds bnd_NoOption___init__⟩
theorem mak_mk (F : PollF K C) (M : MetF K C aE) (B : Bt mg) (Cc : Cn mg) (Bd : BadC P w K mg base CB) (X : K.In h) (G : h.Ns mainGlobals mg) (Uo : C8.Cal P w K mg base 2 "are_options" (spOpts K) []) (Ur : C8.Cal P w K mg base 5 "is_row" (spRow K) []) : MakP P w K mg base C CB := by
  obtain ⟨f, fd, a, i, t, D⟩ := M.ini
  obtain ⟨ds, r, b⟩ := D.binds1 (ps := ["self", "options", "voices"]) 2 0 (by simp) rfl fun T kV doc pm an cdv ct us its l1 l2 => bnd_init1 l1 l2
  exact ⟨f, fd, aE, ds, ⟨F.mkI, a, i, F.kc⟩, ok_init D B Cc (F.polC X G) Bd Uo Ur, PySem.W.mg_of X G F.ns, binds_all D fun T kV doc pm an cdv ct us its l1 l2 => bnd_init l1 l2, M.sqE, b, r⟩
theorem metX_mk {k : Nat} {x qual : Str} {st : Stmt} {ps : List Str} {sp : Sp} (F : PollF K C) (M : MetD K C x qual st) (hb : Bnd x qual st ps) (ok : ∀ f fd, Fun K x qual st f fd → FnOk P w K mg base (L2.CX P w) k f fd ps sp) : MetX P w K mg base k C x sp := by
  obtain ⟨f, fd, a, i, D, kp⟩ := M.ex
  exact ⟨f, fd, ps, F.cls, ⟨a, i, kp⟩, ok f fd D, D.binds hb⟩
theorem met_ok {k : Nat} {x qual : Str} {st : Stmt} {ps : List Str} {sp : Sp} (F : PollF K C) (M : MetD K C x qual st) (hb : Bnd x qual st ps) (ok : ∀ f fd, Fun K x qual st f fd → FnOk P w K mg base CX0 k f fd ps sp) : C8.Met P w K mg base k C x sp [] := by
  obtain ⟨f, fd, a, i, D, kp⟩ := M.ex
  exact ⟨f, fd, ps, [], F.cls, ⟨a, i, kp⟩, ok f fd D, D.binds hb, .nil⟩
/-- one positional value, one by its name -/
theorem kbn1 {x qual : Str} {st : Stmt} {f : Addr} {fd : FuncData} {p q : Str} (F : Fun K x qual st f fd)
    (h : ∀ (kV doc pm : Value) (an : Option Addr) (cdv ct u v : Value), bindArgs (PySem.W.fnOf x qual (defArgs st) (defBody st) (defScope st) .none kV doc pm an cdv ct) ⟨[u], [(q, v)]⟩ = pure [(p, u), (q, v)]) : KBn K fd [p, q] 1 [q] (fun us ws => us ++ ws) (fun vs zs => vs ++ zs) := by
  obtain ⟨oc, od, kV, doc, pm, an, cdv, ct, osl, rfl, lk, hcd⟩ := F.ex
  refine ⟨fun s us ws _ l1 l2 => ?_, fun r1 r2 => r1.append r2⟩
  match us, ws, l1, l2 with
  | [u], [v], _, _ => exact .of_eq (h kV doc pm an cdv ct u v)
theorem metK_mk {k : Nat} {x qual kw p : Str} {st : Stmt} {sp : Sp} (F : PollF K C) (M : MetD K C x qual st)
    (h : ∀ (kV doc pm : Value) (an : Option Addr) (cdv ct u v : Value), bindArgs (PySem.W.fnOf x qual (defArgs st) (defBody st) (defScope st) .none kV doc pm an cdv ct) ⟨[u], [(kw, v)]⟩ = pure [(p, u), (kw, v)])
    (ok : ∀ f fd, Fun K x qual st f fd → FnOk P w K mg base (L2.CX P w) k f fd [p, kw] sp) : MetK P w K mg base k C x kw sp := by
  obtain ⟨f, fd, a, i, D, kp⟩ := M.ex
  exact ⟨f, fd, [p, kw], F.cls, ⟨a, i, kp⟩, ok f fd D, kbn1 D h⟩
theorem ask_mk (d : DefK K "ask_options" s18) (X : K.In h) (G : h.Ns mainGlobals mg) (B : Bt mg) (N : NoC P w K mg base CN) : AskP P w K mg base CN := by
  obtain ⟨f, fd, a, F, kp⟩ := d.ex
  exact ⟨f, fd, ok_ask F B N, PySem.W.mg_of X G a, kp, kbn1 F fun _ _ _ _ _ _ _ _ => rfl⟩
/-- all that law calls -/
theorem lawC (D : DefF K) (BF : BtF K) (CF : CnF K) (F : PollF K C) (M : MetF K C aE) (E : ErrF K CB CN) (X : K.In h) (G : h.Ns mainGlobals mg) : LawC P w K mg base C CB CN := by
  have B := BF.bt X G
  have Cc := CF.cn X G
  have T := F.polC X G
  have J := F.polI
  have whole : C8.Cal P w K mg base 1 "is_whole" spWhole [] := cal_mk D.d7 X G bnd_s7 fun f fd F => ok_whole F B
  have name : C8.Cal P w K mg base 1 "is_name" (spName K) [] := cal_mk D.d8 X G bnd_s8 fun f fd F => ok_name F B Cc
  have unl : C8.Cal P w K mg base 1 "are_unlike" (spUnlike K) [] := cal_mk D.d9 X G bnd_s9 fun f fd F => ok_unlike F B
  have some_ : C8.Cal P w K mg base 2 "are_some_of" (spSome K) [] := cal_mk D.d10 X G bnd_s10 fun f fd F => ok_someOf F B unl
  have tie : C8.Cal P w K mg base 3 "are_tiers" (spTiersOk K) [] := cal_mk D.d13 X G bnd_s13 fun f fd F => ok_tiersOk F B some_
  have mar : C8.Cal P w K mg base 3 "are_marks" (spMarksOk K) [] := cal_mk D.d14 X G bnd_s14 fun f fd F => ok_marksOk F B Cc some_ whole
  have bal : C8.Cal P w K mg base 4 "is_ballot" (spBallotOk K) [] := cal_mk D.d15 X G bnd_s15 fun f fd F => ok_ballotOk F B some_ tie mar
  have hei : C8.Cal P w K mg base 1 "heights_of" (spHeights K) [] := cal_mk D.d16 X G bnd_s16 fun f fd F => ok_heights F B
  have tir : C8.Cal P w K mg base 2 "tiers" (spTiers K) [] := cal_mk D.d17 X G bnd_s17 fun f fd F => ok_tiers F B hei
  have wit : C8.Cal P w K mg base 1 "ballot_without" (spCut K) [] := cal_mk D.d19 X G bnd_s19 fun f fd F => ok_without F B
  have opt : C8.Cal P w K mg base 2 "are_options" (spOpts K) [] := cal_mk D.d24 X G bnd_s24 fun f fd F => ok_opts F B Cc name unl
  have row : C8.Cal P w K mg base 5 "is_row" (spRow K) [] := cal_mk D.d25 X G bnd_s25 fun f fd F => ok_row F B Cc bal whole
  have cell : C8.Cal P w K mg base 1 "_law_cell_at" (spCell K) [] := cal_mk D.d28 X G bnd_s28 fun f fd F => ok_cell F B
  have well : C8.Cal P w K mg base 1 "_law_well" spWell [] := cal_mk D.d29 X G bnd_s29 fun f fd F => ok_well F B
  have draw : C8.Cal P w K mg base 1 "_law_draw" spDraw [] := cal_mk D.d30 X G bnd_s30 fun f fd F => ok_draw F
  have one : C8.Cal P w K mg base 2 "_law_one" spOne [] := cal_mk D.d31 X G bnd_s31 fun f fd F => ok_one F B draw
  have opts : C8.Cal P w K mg base 2 "_law_options" (spOptions K) [] := cal_mk D.d32 X G bnd_s32 fun f fd F => ok_options F B draw
  have shuf : C8.Cal P w K mg base 2 "_law_shuffled" (spShuf K) [] := cal_mk D.d33 X G bnd_s33 fun f fd F => ok_shuf F B draw
  have td : C8.Cal P w K mg base 3 "_law_tiers_drawn" (spTD K) [] := cal_mk D.d34 X G bnd_s34 fun f fd F => ok_td F B draw shuf
  have lb : C8.Cal P w K mg base 4 "_law_ballot" (spLB K) [] := cal_mk D.d35 X G bnd_s35 fun f fd F => ok_lballot F B draw shuf td
  have lr : C8.Cal P w K mg base 5 "_law_rows" (spLR K) [] := cal_mk D.d36 X G bnd_s36 fun f fd F => ok_lrows F B draw lb
  have lhi : C8.Cal P w K mg base 1 "_law_high" (spLHigh K) [] := cal_mk D.d37 X G bnd_s37 fun f fd F => ok_lhigh F B
  have lti : C8.Cal P w K mg base 2 "_law_tiers" (spTiers K) [] := cal_mk D.d38 X G bnd_s38 fun f fd F => ok_ltiers F B lhi
  have told : C8.Cal P w K mg base 3 "_law_told_anew" (spTold K) [] := cal_mk D.d39 X G bnd_s39 fun f fd F => ok_told F B one lti
  have othr : C8.Cal P w K mg base 6 "_law_other" (spOther K) [] := cal_mk D.d40 X G bnd_s40 fun f fd F => ok_other F B draw shuf one lb lr told
  have cntd : CalG P w K mg base 3 "_law_counted" (spCnt K) := calG_mk D.d41 X G bnd_s41 fun f fd F => ok_counted F B B.rpr lti
  have slip : C8.Cal P w K mg base 1 "_law_slip_cut" (spCut K) [] := cal_mk D.d44 X G bnd_s44 fun f fd F => ok_slipCut F B
  have Bd : BadC P w K mg base CB := E.badC B X G
  have No : NoC P w K mg base CN := E.noC B X G
  have Ak : AskP P w K mg base CN := ask_mk D.d18 X G B No
  have Mk : MakP P w K mg base C CB := mak_mk F M B Cc Bd X G opt row
  have Mj : MetX P w K mg base 8 C "joined" (spJoin K C CB) := metX_mk F M.jn bnd_Poll_joined fun f fd F => ok_join F B T Bd Mk
  have Mw : MetK P w K mg base 8 C "joined" "other" (spJoin K C CB) := metK_mk (p := "self") F M.jn (fun _ _ _ _ _ _ _ _ => rfl) fun f fd F => ok_join F B T Bd Mk
  have Mo : MetX P w K mg base 8 C "only" (spOnly K C CB CN) := metX_mk F M.on bnd_Poll_only fun f fd F => ok_only F B T Bd Mk Ak name unl wit
  have cut : C8.Cal P w K mg base 9 "_law_cut" (spLCut K C CB CN) [] := cal_mk D.d42 X G bnd_s42 fun f fd F => ok_lcut F Bd.m No.m E.exm Mo
  have unj : C8.Cal P w K mg base 9 "_law_unjoined" (spUnj K) [] := cal_mk D.d43 X G bnd_s43 fun f fd F => ok_unj F B T Bd.m E.exm Mk Mj
  have cutR : CalG P w K mg base 10 "_law_cut_right" (spCR K C) := calG_mk D.d45 X G bnd_s45 fun f fd F => ok_cutRight F B B.rpr T J cut lti tir slip
  have Mb : C8.Met P w K mg base 3 C "by_tiers" (spBT P w K C) [] := met_ok F M.bt bnd_Poll_by_tiers fun f fd F => ok_bt F B T tir
  have Ge : EqC P w K mg base C := by
    obtain ⟨f, fd, a, i, D, kp⟩ := M.eq.ex
    exact ⟨⟨f, fd, a, i, ok_peq D B T J Mb, D.binds bnd_Poll___eq__⟩, F.ne, F.ob, F.nfS, F.nfT⟩
  have Rp : RpC P w K mg base C := by
    obtain ⟨f, fd, a, i, D, kp⟩ := M.rp.ex
    exact ⟨f, fd, a, i, ok_prepr D T, D.binds bnd_Poll___repr__⟩
  exact { B := B, T := T, J := J, G := Ge, R := Rp, Mk := Mk, Mj := Mj, Mw := Mw, cell := cell, well := well, draw := draw, opts := opts, rows := lr, othr := othr, cntd := cntd, unj := unj, shuf := shuf, cutR := cutR, one := one, cut := cut }
/-- for the head -/
theorem law_fd {fa : Addr} (hfa : mg "law" = some (.ref fa)) (D : DefF K) (BF : BtF K) (CF : CnF K) (F : PollF K C) (M : MetF K C aE) (E : ErrF K CB CN) (X : K.In h) (G : h.Ns mainGlobals mg) :
    ∃ fd : FuncData, (∀ (s : Shared) (u : Value), BindsTo s fd ⟨[u], []⟩ [("_law_script", u)]) ∧ ∀ base : Heap, K.In base → base.Ns mainGlobals mg → FnG P w K mg base CX0 11 fa fd ["_law_script"] (spLaw K) := by
  obtain ⟨f, fd, a, Fn, kp⟩ := D.d46.ex
  have e := hfa.symm.trans (PySem.W.mg_of X G a)
  cases e
  refine ⟨fd, fun s u => ?_, fun base _ _ => ok_law Fn plain (lawC D BF CF F M E X G)⟩
  obtain ⟨oc, od, kV, doc, pm, an, cdv, ct, osl, rfl, lk, hcd⟩ := Fn.ex
  exact .of_eq rfl
end
end VF
open PySem PySem.W PyProof.Rows
set_option maxHeartbeats 0
open_top vhead for PySem.Challenge.rw_voicefold_k14_whole_polls_alike_joined_a
set_option maxHeartbeats 0
open PySem PySem.W PyProof.Rows
theorem PySem.Challenge.cw_voicefold_k14_whole_polls_alike_joined_a_holds : PySem.Challenge.rw_voicefold_k14_whole_polls_alike_joined_a.Holds := by
  refine vhead ?_
  k_fill
  refine VF.walkG (l := PySem.Challenge.rw_voicefold_k14_whole_polls_alike_joined_a) (n := 63) (k := 11) (x := "_law_script") (sp := VF.spLaw) rfl (by decide) rfl ⟨rfl, by decide, by decide⟩ (fun w h Y => PySem.W.kIn_of Y) ?F ?S
  case S =>
    intro K H a ns hl hS
    exact ⟨rfl, a, ns, rfl, hS, by omega, fun _ _ => rfl⟩
  case F =>
    intro w mg fa h KX G hmg0
    have hmg : mg "law" = some (.ref fa) := hmg0
    clear hmg0
    refine' VF.law_fd hmg ?D ?BF ?CF ?F ?M ?E KX G
    case F =>
      refine' ⟨?ns, ?pg, ?hd, ?po, ?sa, ?mkI, ?kc, ?nO, ?nV, ?cc, ?cg, ?ct, ?cm, VF.kit_self, VF.kit_tyC (VF.kitCls_ref ?i1 ?t1 ?u1), VF.kit_tyC (VF.kitCls_ref ?i2 ?t2 ?u2), ?ne, ?ob, ?nfS, ?nfT⟩
      (case ns => k_is)
      (case pg => k_is)
      (case hd => k_is)
      (case po => k_is)
      (case sa => k_is)
      (case mkI => k_is)
      (case kc => k_is)
      (case nO => k_is)
      (case nV => k_is)
      (case cc => k_is)
      (case cg => k_is)
      (case ct => k_is)
      (case cm => k_is)
      (case i1 => k_is)
      (case t1 => k_is)
      (case u1 => k_is)
      (case i2 => k_is)
      (case t2 => k_is)
      (case u2 => k_is)
      (case ne => k_is)
      (case ob => k_is)
      (case nfS => k_is)
      (case nfT => k_is)
    case M =>
      refine' ⟨?eq, ?rp, ?bt, ?jn, ?on, ?ini, ?sq⟩
      case eq =>
        refine' VF.met_mk ?a ?i ?l ?c ?k
        (case a => k_is)
        (case i => k_is)
        (case l => k_is)
        (case c => k_is)
        (case k => k_is)
      case rp =>
        refine' VF.met_mk ?a ?i ?l ?c ?k
        (case a => k_is)
        (case i => k_is)
        (case l => k_is)
        (case c => k_is)
        (case k => k_is)
      case bt =>
        refine' VF.met_mk ?a ?i ?l ?c ?k
        (case a => k_is)
        (case i => k_is)
        (case l => k_is)
        (case c => k_is)
        (case k => k_is)
      case jn =>
        refine' VF.met_mk ?a ?i ?l ?c ?k
        (case a => k_is)
        (case i => k_is)
        (case l => k_is)
        (case c => k_is)
        (case k => k_is)
      case on =>
        refine' VF.met_mk ?a ?i ?l ?c ?k
        (case a => k_is)
        (case i => k_is)
        (case l => k_is)
        (case c => k_is)
        (case k => k_is)
      case ini =>
        refine' VF.ini_mk ?a ?i ?t ?l ?c ?k ?lT ?r
        (case a => k_is)
        (case i => k_is)
        (case t => k_is)
        (case l => k_is)
        (case c => k_is)
        (case k => k_is)
        (case lT => k_is)
        (case r => rfl)
      case sq =>
        refine' VF.sqE_mk ?l ?c
        (case l => k_is)
        (case c => rfl)
    case E =>
      refine' ⟨?nsB, ?tB, ?bB, ?iB, ?nsN, ?tN, ?bN, ?iN, ?xf, ?cB, ?cN, ?sBB, ?sNB, ?sNN, ?vV, ?vK⟩
      (case nsB => k_is)
      (case nsN => k_is)
      case tB =>
        refine' VF.oexc_mk ?l ?m ?sa ?ex ?ty ?kC
        (case l => k_is)
        (case m => decide +kernel)
        (case sa => k_is)
        (case ex => k_is)
        (case ty => k_is)
        (case kC => k_is)
      case iB =>
        refine' ⟨_, VF.ini_mk (v := .str "refused") ?a ?i ?t ?l ?c ?k ?lT ?r⟩
        (case a => k_is)
        (case i => k_is)
        (case t => k_is)
        (case l => k_is)
        (case c => k_is)
        (case k => k_is)
        (case lT => k_is)
        (case r => exact ⟨_, rfl⟩)
      case tN =>
        refine' VF.oexk_mk ?l ?m ?sa ?ex ?ty ?kC
        (case l => k_is)
        (case m => rfl)
        (case sa => k_is)
        (case ex => k_is)
        (case ty => k_is)
        (case kC => k_is)
      case iN =>
        refine' VF.met_mk ?a ?i ?l ?c ?k
        (case a => k_is)
        (case i => k_is)
        (case l => k_is)
        (case c => k_is)
        (case k => k_is)
      case xf =>
        refine' ⟨?a, ?b, ?c, ?d⟩
        (case a => k_is)
        (case b => k_is)
        (case c => k_is)
        (case d => k_is)
      (case bB => k_is)
      (case bN => k_is)
      (case cB => k_is)
      (case cN => k_is)
      (case sBB => k_is)
      (case sNB => k_is)
      (case sNN => k_is)
      (case vV => k_is)
      (case vK => k_is)
    case BF =>
      refine' ⟨?isi, ?tyInt, ?tyBool, ?tyStr, ?tyTup, ?tyLst, ?tyDct, ?tySet, ?rng, ?enm, ?len, ?all, ?srt, ?rpr, ?vE, ?kE⟩
      (case isi => k_is)
      (case tyInt => k_is)
      (case tyBool => k_is)
      (case tyStr => k_is)
      (case tyTup => k_is)
      (case tyLst => k_is)
      (case tyDct => k_is)
      (case tySet => k_is)
      (case rng => k_is)
      (case enm => k_is)
      (case len => k_is)
      (case all => k_is)
      (case srt => k_is)
      (case rpr => k_is)
      (case vE => k_is)
      (case kE => k_is)
    case CF =>
      refine' ⟨?letters, ?mostL, ?mostM, ?mostO, ?mostR, ?mostV⟩
      case letters =>
        refine' VF.con_mk ?a ?r
        (case a => k_is)
        (case r => exact ⟨_, rfl⟩)
      case mostL =>
        refine' VF.con_mk ?a ?r
        (case a => k_is)
        (case r => exact ⟨_, rfl⟩)
      case mostM =>
        refine' VF.con_mk ?a ?r
        (case a => k_is)
        (case r => exact ⟨_, rfl⟩)
      case mostO =>
        refine' VF.con_mk ?a ?r
        (case a => k_is)
        (case r => exact ⟨_, rfl⟩)
      case mostR =>
        refine' VF.con_mk ?a ?r
        (case a => k_is)
        (case r => exact ⟨_, rfl⟩)
      case mostV =>
        refine' VF.con_mk ?a ?r
        (case a => k_is)
        (case r => exact ⟨_, rfl⟩)
    case D =>
      refine' ⟨?d7, ?d8, ?d9, ?d10, ?d13, ?d14, ?d15, ?d16, ?d17, ?d18, ?d19, ?d24, ?d25, ?d28, ?d29, ?d30, ?d31, ?d32, ?d33, ?d34, ?d35, ?d36, ?d37, ?d38, ?d39, ?d40, ?d41, ?d42, ?d43, ?d44, ?d45, ?d46⟩
      case d7 =>
        refine' VF.def_mk ?a ?l ?c ?k
        (case a => k_is)
        (case l => k_is)
        (case c => k_is)
        (case k => k_is)
      case d8 =>
        refine' VF.def_mk ?a ?l ?c ?k
        (case a => k_is)
        (case l => k_is)
        (case c => k_is)
        (case k => k_is)
      case d9 =>
        refine' VF.def_mk ?a ?l ?c ?k
        (case a => k_is)
        (case l => k_is)
        (case c => k_is)
        (case k => k_is)
      case d10 =>
        refine' VF.def_mk ?a ?l ?c ?k
        (case a => k_is)
        (case l => k_is)
        (case c => k_is)
        (case k => k_is)
      case d13 =>
        refine' VF.def_mk ?a ?l ?c ?k
        (case a => k_is)
        (case l => k_is)
        (case c => k_is)
        (case k => k_is)
      case d14 =>
        refine' VF.def_mk ?a ?l ?c ?k
        (case a => k_is)
        (case l => k_is)
        (case c => k_is)
        (case k => k_is)
      case d15 =>
        refine' VF.def_mk ?a ?l ?c ?k
        (case a => k_is)
        (case l => k_is)
        (case c => k_is)
        (case k => k_is)
      case d16 =>
        refine' VF.def_mk ?a ?l ?c ?k
        (case a => k_is)
        (case l => k_is)
        (case c => k_is)
        (case k => k_is)
      case d17 =>
        refine' VF.def_mk ?a ?l ?c ?k
        (case a => k_is)
        (case l => k_is)
        (case c => k_is)
        (case k => k_is)
      case d18 =>
        refine' VF.def_mk ?a ?l ?c ?k
        (case a => k_is)
        (case l => k_is)
        (case c => k_is)
        (case k => k_is)
      case d19 =>
        refine' VF.def_mk ?a ?l ?c ?k
        (case a => k_is)
        (case l => k_is)
        (case c => k_is)
        (case k => k_is)
      case d24 =>
        refine' VF.def_mk ?a ?l ?c ?k
        (case a => k_is)
        (case l => k_is)
        (case c => k_is)
        (case k => k_is)
      case d25 =>
        refine' VF.def_mk ?a ?l ?c ?k
        (case a => k_is)
        (case l => k_is)
        (case c => k_is)
        (case k => k_is)
      case d28 =>
        refine' VF.def_mk ?a ?l ?c ?k
        (case a => k_is)
        (case l => k_is)
        (case c => k_is)
        (case k => k_is)
      case d29 =>
        refine' VF.def_mk ?a ?l ?c ?k
        (case a => k_is)
        (case l => k_is)
        (case c => k_is)
        (case k => k_is)
      case d30 =>
        refine' VF.def_mk ?a ?l ?c ?k
        (case a => k_is)
        (case l => k_is)
        (case c => k_is)
        (case k => k_is)
      case d31 =>
        refine' VF.def_mk ?a ?l ?c ?k
        (case a => k_is)
        (case l => k_is)
        (case c => k_is)
        (case k => k_is)
      case d32 =>
        refine' VF.def_mk ?a ?l ?c ?k
        (case a => k_is)
        (case l => k_is)
        (case c => k_is)
        (case k => k_is)
      case d33 =>
        refine' VF.def_mk ?a ?l ?c ?k
        (case a => k_is)
        (case l => k_is)
        (case c => k_is)
        (case k => k_is)
      case d34 =>
        refine' VF.def_mk ?a ?l ?c ?k
        (case a => k_is)
        (case l => k_is)
        (case c => k_is)
        (case k => k_is)
      case d35 =>
        refine' VF.def_mk ?a ?l ?c ?k
        (case a => k_is)
        (case l => k_is)
        (case c => k_is)
        (case k => k_is)
      case d36 =>
        refine' VF.def_mk ?a ?l ?c ?k
        (case a => k_is)
        (case l => k_is)
        (case c => k_is)
        (case k => k_is)
      case d37 =>
        refine' VF.def_mk ?a ?l ?c ?k
        (case a => k_is)
        (case l => k_is)
        (case c => k_is)
        (case k => k_is)
      case d38 =>
        refine' VF.def_mk ?a ?l ?c ?k
        (case a => k_is)
        (case l => k_is)
        (case c => k_is)
        (case k => k_is)
      case d39 =>
        refine' VF.def_mk ?a ?l ?c ?k
        (case a => k_is)
        (case l => k_is)
        (case c => k_is)
        (case k => k_is)
      case d40 =>
        refine' VF.def_mk ?a ?l ?c ?k
        (case a => k_is)
        (case l => k_is)
        (case c => k_is)
        (case k => k_is)
      case d41 =>
        refine' VF.def_mk ?a ?l ?c ?k
        (case a => k_is)
        (case l => k_is)
        (case c => k_is)
        (case k => k_is)
      case d42 =>
        refine' VF.def_mk ?a ?l ?c ?k
        (case a => k_is)
        (case l => k_is)
        (case c => k_is)
        (case k => k_is)
      case d43 =>
        refine' VF.def_mk ?a ?l ?c ?k
        (case a => k_is)
        (case l => k_is)
        (case c => k_is)
        (case k => k_is)
      case d44 =>
        refine' VF.def_mk ?a ?l ?c ?k
        (case a => k_is)
        (case l => k_is)
        (case c => k_is)
        (case k => k_is)
      case d45 =>
        refine' VF.def_mk ?a ?l ?c ?k
        (case a => k_is)
        (case l => k_is)
        (case c => k_is)
        (case k => k_is)
      case d46 =>
        refine' VF.def_mk ?a ?l ?c ?k
        (case a => k_is)
        (case l => k_is)
        (case c => k_is)
        (case k => k_is)
