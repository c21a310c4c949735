import PyProof.Rows.All
import Wide.All
import OpenK.AllK
import Wide.FinOn
import KE.KStateDown
import HandS.ForMost
import HandS.ForExc
import HandS.Defaults
import HandS.Exc
import HandS.Lambda
import HandS.TupAny
import HandS.Conv
import HandS.IsInst
import HandS.TupMul
import HandS.Deep
import HandS.Text
import HandS.SortInts
import HandS.Iter
import HandS.Zip
import HandS.Rev
import HandS.ExcOwn
import PyProof.ExcBaseAll.LookupError
import KE.KExcSuper
import KE.KExcInit
import KE.KSuper
import HandS.ExcInit
import HandS.TryMany
import HandS.ExcField
import HandS.ExcIs
import HandS.ExcValue
import PyProof.ReprRoads
import PyProof.CallFns
import HandS.HeadHook4
import HandS.EndTab
import HandS.HeadEnd
import KE.KNestM
import KE.GoesEnum
import KE.GoesMore
import HandS.Style
import HandS.More
import HandS.Dict
import HandS.DictComp
import PyProof.InstEq
import HandS.ReplaceLit
import KE.GoesRaise
import HandS.Comp
import KE.KDictPairs
import PySem.Challenge.RW_agedcopy_k32_whole_a_store_with_a_note_a
import HandS.Ends
import HandS.Words
import HandS.WordsExc
import HandS.Head0
import HandS.Head1
import HandS.Head2
import HandS.HeadHook1
import HandS.HeadHook2
set_option Elab.async false
set_option linter.all false
set_option maxRecDepth 100000
set_option maxHeartbeats 8000000
namespace DL
open PySem PySem.Spec PyProof.Rows L2

/-! ### plain values -/
inductive D where
  | non | bl (b : Bool) | int (i : Int) | str (s : Str) | ty (n : String) | gl (x : Str)
  | tup (xs : List D) | lst (xs : List D)
  | ins (c : Str) (fn : List Str) (fv : List D)
  | scr (ns : List Int)
  | exc (c f : Str) (x : D)
  | pr (x y : D)
  deriving Inhabited
/-- what a slot holds: nothing, plain data, or a thing of one's own that may be changed -/
inductive EV where
  | un | v (d : D) | ol (xs : List EV) | oi (c : Str) (fn : List Str) (fv : List EV) | od (t : Bool) (ks : List D) (xs : List EV)
  deriving Inhabited
/-- the written part, the module's names -/
structure RC where
  K : PySem.W.Frag
  mg : Str → Option Value
  T : List (Addr × Str)
/-- the tables of the lambdas' code, by the written part -/
class LT where
  tf : PySem.W.Frag → List (Addr × Str)
/-- no table -/
def NT (o : HO) : Prop := ∀ ps, o ≠ .tbl ps

/-- at a: an exception of the class cls, its dict d -/
def xo (a : Addr) (cls : Value) (d : Option Addr) : HO := .ext fun h => ∃ oe vs, h.get? a = some oe ∧ Zc cls d oe ∧ oe.data = .fields vs
/-- a tuple that never is locked: tracked, or of the module -/
def TpA (K : PySem.W.Frag) (G : Hp) (a : Addr) (xs : List V) : Prop :=
  (∃ o : Obj, G a = some (.frz o (.tup xs)) ∧ o.dict = none) ∨ ∃ (us : List Value) (n : Nat) (sl : Array (Option Value)), K.lookup a = some ⟨.type "tuple", none, .seq us.toArray n, sl⟩ ∧ us.length ≤ sizeLine ∧ Vals xs us
theorem TpA.sq {K : PySem.W.Frag} {G : Hp} {a : Addr} {xs : List V} (h : TpA K G a xs) : SqT K G a xs := by
  rcases h with ⟨o, h, _⟩ | ⟨us, n, sl, h1, h2, h3⟩
  · exact .inl (.inr ⟨o, h⟩)
  · exact .inr ⟨_, us.toArray, n, h1, rfl, rfl, by simpa using h2, by simpa using h3⟩
mutual
def Rep (R : RC) (G : Hp) : D → V → Prop
  | .non, v => v = .non
  | .bl b, v => v = .bl b
  | .int i, v => v = .int i
  | .str s, v => v = .str s
  | .ty n, v => v = .ty n
  | .gl x, v => ∃ a, R.mg x = some (.ref a) ∧ v = .ref a
  | .tup xs, v => ∃ a vs, v = .ref a ∧ TpA R.K G a vs ∧ Reps R G xs vs
  | .lst xs, v => ∃ a vs, v = .ref a ∧ G a = some (.lst vs) ∧ Reps R G xs vs
  | .scr ns, v => ∃ a, v = .ref a ∧ SqL R.K G a (ns.map V.int)
  | .exc c f x, v => ∃ a C dd w, v = .ref a ∧ R.mg c = some (.ref C) ∧ G a = some (xo a (.ref C) (some dd)) ∧ G dd = some (.xd [(f, w)]) ∧ Rep R G x w
  | .ins c fn fv, v => ∃ a dx C fs, v = .ref a ∧ R.mg c = some (.ref C) ∧ G a = some (.ins C dx fs) ∧ fs.map (·.1) = fn ∧ Reps R G fv (fs.map (·.2))
  | .pr x y, v => ∃ a u w, v = .ref a ∧ G a = some (.tup [u, w]) ∧ Rep R G x u ∧ Rep R G y w
def Reps (R : RC) (G : Hp) : List D → List V → Prop
  | [], vs => vs = []
  | x :: xs, vs => ∃ v r, vs = v :: r ∧ Rep R G x v ∧ Reps R G xs r
end

/-- all that stands in one stands in the other -/
def Sub (G G' : Hp) : Prop := ∀ a o, G a = some o → G' a = some o
theorem Sub.refl (G : Hp) : Sub G G := fun _ _ h => h
theorem Sub.trans {G G1 G2 : Hp} (a : Sub G G1) (b : Sub G1 G2) : Sub G G2 := fun c o h => b c o (a c o h)
theorem Sub.sqL {K : PySem.W.Frag} {G G' : Hp} {a : Addr} {xs : List V} (e : Sub G G') (h : SqL K G a xs) : SqL K G' a xs := by
  rcases h with (h | ⟨o, h⟩) | h
  · exact .inl (.inl (e _ _ h))
  · exact .inl (.inr ⟨o, e _ _ h⟩)
  · exact .inr h
theorem Sub.tpA {K : PySem.W.Frag} {G G' : Hp} {a : Addr} {xs : List V} (e : Sub G G') (h : TpA K G a xs) : TpA K G' a xs := by
  rcases h with ⟨o, h, n⟩ | h
  · exact .inl ⟨o, e _ _ h, n⟩
  · exact .inr h
theorem Sub.sqT {K : PySem.W.Frag} {G G' : Hp} {a : Addr} {xs : List V} (e : Sub G G') (h : SqT K G a xs) : SqT K G' a xs := by
  rcases h with (h | ⟨o, h⟩) | h
  · exact .inl (.inl (e _ _ h))
  · exact .inl (.inr ⟨o, e _ _ h⟩)
  · exact .inr h
mutual
theorem Rep.mono {R : RC} {G G' : Hp} (e : Sub G G') : ∀ {d : D} {v : V}, Rep R G d v → Rep R G' d v
  | .non, _, h => h
  | .bl _, _, h => h
  | .int _, _, h => h
  | .str _, _, h => h
  | .ty _, _, h => h
  | .gl _, _, h => h
  | .tup xs, v, h => by
    obtain ⟨a, vs, h1, h2, h3⟩ := h
    exact ⟨a, vs, h1, e.tpA h2, Reps.mono e h3⟩
  | .lst xs, v, h => by
    obtain ⟨a, vs, h1, h2, h3⟩ := h
    exact ⟨a, vs, h1, e _ _ h2, Reps.mono e h3⟩
  | .scr ns, v, h => by
    obtain ⟨a, h1, h2⟩ := h
    exact ⟨a, h1, e.sqL h2⟩
  | .exc c f x, v, h => by
    obtain ⟨a, C, dd, w, h1, h2, h3, h4, h5⟩ := h
    exact ⟨a, C, dd, w, h1, h2, e _ _ h3, e _ _ h4, Rep.mono e h5⟩
  | .ins c fn fv, v, h => by
    obtain ⟨a, dx, C, fs, h1, h2, h3, h4, h5⟩ := h
    exact ⟨a, dx, C, fs, h1, h2, e _ _ h3, h4, Reps.mono e h5⟩
  | .pr x y, v, h => by
    obtain ⟨a, u, w, h1, h2, h3, h4⟩ := h
    exact ⟨a, u, w, h1, e _ _ h2, Rep.mono e h3, Rep.mono e h4⟩
theorem Reps.mono {R : RC} {G G' : Hp} (e : Sub G G') : ∀ {xs : List D} {vs : List V}, Reps R G xs vs → Reps R G' xs vs
  | [], _, h => h
  | x :: xs, vs, h => by
    obtain ⟨v, r, h1, h2, h3⟩ := h
    exact ⟨v, r, h1, Rep.mono e h2, Reps.mono e h3⟩
end
theorem Reps.length {R : RC} {G : Hp} : ∀ {xs : List D} {vs : List V}, Reps R G xs vs → xs.length = vs.length
  | [], vs, h => by
    have e : vs = [] := h
    subst e; rfl
  | x :: xs, vs, h => by
    obtain ⟨v, r, h1, h2, h3⟩ := h
    rw [h1, List.length_cons, List.length_cons, Reps.length h3]
theorem Reps.get {R : RC} {G : Hp} : ∀ {xs : List D} {vs : List V} {i : Nat} {d : D}, Reps R G xs vs → xs[i]? = some d → ∃ v, vs[i]? = some v ∧ Rep R G d v
  | [], _, _, _, _, e => by simp at e
  | x :: xs, vs, 0, d, h, e => by
    obtain ⟨v, r, h1, h2, h3⟩ := h
    simp only [List.getElem?_cons_zero, Option.some.injEq] at e
    subst e
    exact ⟨v, by rw [h1, List.getElem?_cons_zero], h2⟩
  | x :: xs, vs, i + 1, d, h, e => by
    obtain ⟨v, r, h1, h2, h3⟩ := h
    obtain ⟨u, e1, e2⟩ := Reps.get h3 (by simpa using e)
    exact ⟨u, by rw [h1, List.getElem?_cons_succ]; exact e1, e2⟩
/-- the value's place, from the side of the heap -/
theorem Reps.get' {R : RC} {G : Hp} : ∀ {xs : List D} {vs : List V} {i : Nat} {v : V}, Reps R G xs vs → vs[i]? = some v → ∃ d, xs[i]? = some d ∧ Rep R G d v
  | [], vs, i, v, h, e => by rw [show vs = [] from h] at e; simp at e
  | x :: xs, vs, 0, v, h, e => by
    obtain ⟨u, r, h1, h2, h3⟩ := h
    rw [h1, List.getElem?_cons_zero] at e
    cases e
    exact ⟨x, rfl, h2⟩
  | x :: xs, vs, i + 1, v, h, e => by
    obtain ⟨u, r, h1, h2, h3⟩ := h
    rw [h1, List.getElem?_cons_succ] at e
    obtain ⟨d, e1, e2⟩ := Reps.get' h3 e
    exact ⟨d, by simpa using e1, e2⟩
theorem Reps.append {R : RC} {G : Hp} : ∀ {xs ys : List D} {vs ws : List V}, Reps R G xs vs → Reps R G ys ws → Reps R G (xs ++ ys) (vs ++ ws)
  | [], _, _, _, h, h' => by rw [show _ = [] from h]; exact h'
  | x :: xs, ys, vs, ws, h, h' => by
    obtain ⟨v, r, h1, h2, h3⟩ := h
    exact ⟨v, r ++ ws, by rw [h1]; rfl, h2, Reps.append h3 h'⟩
theorem Reps.one {R : RC} {G : Hp} {d : D} {v : V} (h : Rep R G d v) : Reps R G [d] [v] := ⟨v, [], rfl, h, rfl⟩
theorem Reps.take {R : RC} {G : Hp} : ∀ {xs : List D} {vs : List V} (n : Nat), Reps R G xs vs → Reps R G (xs.take n) (vs.take n)
  | [], vs, n, h => by rw [show vs = [] from h, List.take_nil, List.take_nil]; rfl
  | x :: xs, vs, 0, h => rfl
  | x :: xs, vs, n + 1, h => by
    obtain ⟨v, r, h1, h2, h3⟩ := h
    rw [h1]
    exact ⟨v, r.take n, rfl, h2, Reps.take n h3⟩
theorem Reps.drop {R : RC} {G : Hp} : ∀ {xs : List D} {vs : List V} (n : Nat), Reps R G xs vs → Reps R G (xs.drop n) (vs.drop n)
  | [], vs, n, h => by rw [show vs = [] from h, List.drop_nil, List.drop_nil]; rfl
  | x :: xs, vs, 0, h => h
  | x :: xs, vs, n + 1, h => by
    obtain ⟨v, r, h1, h2, h3⟩ := h
    rw [h1]
    exact Reps.drop n h3
theorem Reps.reverse {R : RC} {G : Hp} : ∀ {xs : List D} {vs : List V}, Reps R G xs vs → Reps R G xs.reverse vs.reverse
  | [], vs, h => by rw [show vs = [] from h]; rfl
  | x :: xs, vs, h => by
    obtain ⟨v, r, h1, h2, h3⟩ := h
    rw [h1, List.reverse_cons, List.reverse_cons]
    exact Reps.append (Reps.reverse h3) (Reps.one h2)
theorem Reps.map {R : RC} {G : Hp} {f : Int → D} {g : Int → V} (h : ∀ i, Rep R G (f i) (g i)) : ∀ ns : List Int, Reps R G (ns.map f) (ns.map g)
  | [] => rfl
  | n :: ns => ⟨g n, ns.map g, rfl, h n, Reps.map h ns⟩

/-! ### slots -/
/-- a dict's key as plain data -/
def keyD : Key → D
  | .inl i => .int i
  | .inr z => .str z
/-- at a: a dict, its keys numbers and texts, or tuples of these -/
inductive DHas (H : Hp) (a : Addr) : Bool → List D → List V → Prop
  | k (kvs : List (Key × V)) (h : H a = some (.dK kvs)) : DHas H a false (kvs.map fun p => keyD p.1) (kvs.map (·.2))
  | t (kvs : List (List Key × V)) (h : H a = some (.dT kvs)) : DHas H a true (kvs.map fun p => .tup (p.1.map keyD)) (kvs.map (·.2))
theorem DHas.keep {H H' : Hp} {a : Addr} {t : Bool} {ks : List D} {vs : List V} (h : DHas H a t ks vs) (k : ∀ o, H a = some o → H' a = some o) : DHas H' a t ks vs := by
  cases h with
  | k kvs h => exact .k kvs (k _ h)
  | t kvs h => exact .t kvs (k _ h)
theorem DHas.there {H : Hp} {a : Addr} {t : Bool} {ks : List D} {vs : List V} (h : DHas H a t ks vs) : ∃ o, H a = some o ∧ NT o ∧ ∀ c q, o ≠ LamX.CodeO c q := by
  cases h with
  | k kvs h => exact ⟨_, h, fun _ y => (by cases y), fun c q y => (by have y' : HO.dK kvs = HO.ext _ := y; cases y')⟩
  | t kvs h => exact ⟨_, h, fun _ y => (by cases y), fun c q y => (by have y' : HO.dT kvs = HO.ext _ := y; cases y')⟩
theorem DHas.len {H : Hp} {a : Addr} {t : Bool} {ks : List D} {vs : List V} (h : DHas H a t ks vs) : ks.length = vs.length := by
  cases h <;> simp
mutual
def Sl (R : RC) (G H : Hp) : EV → Option V → List Addr → Prop
  | .un, _, f => f = []
  | .v d, s, f => f = [] ∧ ∃ v, s = some v ∧ Rep R G d v
  | .ol xs, s, f => ∃ a vs f', s = some (.ref a) ∧ H a = some (.lst vs) ∧ f = a :: f' ∧ Sls R G H xs (vs.map some) f'
  | .oi c fn fv, s, f => ∃ a dx C fs f', s = some (.ref a) ∧ R.mg c = some (.ref C) ∧ H a = some (.ins C dx fs) ∧ fs.map (·.1) = fn ∧ f = a :: f' ∧ Sls R G H fv (fs.map fun p => some p.2) f'
  | .od t ks xs, s, f => ∃ a vs f', s = some (.ref a) ∧ DHas H a t ks vs ∧ f = a :: f' ∧ Sls R G H xs (vs.map some) f'
def Sls (R : RC) (G H : Hp) : List EV → List (Option V) → List Addr → Prop
  | [], s, f => s = [] ∧ f = []
  | e :: es, s, f => ∃ s0 sr f0 fr, s = s0 :: sr ∧ f = f0 ++ fr ∧ Sl R G H e s0 f0 ∧ Sls R G H es sr fr
end
/-! a slot's word leans on the frozen part and on its own objects alone -/
mutual
theorem Sl.keep {R : RC} {G G' H H' : Hp} (e : Sub G G') : ∀ {ev : EV} {s : Option V} {f : List Addr}, Sl R G H ev s f → (∀ a ∈ f, ∀ o, H a = some o → H' a = some o) → Sl R G' H' ev s f
  | .un, _, _, h, _ => h
  | .v d, _, _, h, _ => by
    obtain ⟨h1, v, h2, h3⟩ := h
    exact ⟨h1, v, h2, h3.mono e⟩
  | .ol xs, _, f, h, k => by
    obtain ⟨a, vs, f', h1, h2, h3, h4⟩ := h
    subst h3
    exact ⟨a, vs, f', h1, k a (List.mem_cons_self ..) _ h2, rfl, Sls.keep e h4 fun b hb => k b (List.mem_cons_of_mem _ hb)⟩
  | .oi c fn fv, _, f, h, k => by
    obtain ⟨a, dx, C, fs, f', h1, h2, h3, h4, h5, h6⟩ := h
    subst h5
    exact ⟨a, dx, C, fs, f', h1, h2, k a (List.mem_cons_self ..) _ h3, h4, rfl, Sls.keep e h6 fun b hb => k b (List.mem_cons_of_mem _ hb)⟩
  | .od t ks xs, _, f, h, k => by
    obtain ⟨a, vs, f', h1, h2, h3, h4⟩ := h
    subst h3
    exact ⟨a, vs, f', h1, h2.keep (k a (List.mem_cons_self ..)), rfl, Sls.keep e h4 fun b hb => k b (List.mem_cons_of_mem _ hb)⟩
theorem Sls.keep {R : RC} {G G' H H' : Hp} (e : Sub G G') : ∀ {es : List EV} {s : List (Option V)} {f : List Addr}, Sls R G H es s f → (∀ a ∈ f, ∀ o, H a = some o → H' a = some o) → Sls R G' H' es s f
  | [], _, _, h, _ => h
  | ev :: es, s, f, h, k => by
    obtain ⟨s0, sr, f0, fr, h1, h2, h3, h4⟩ := h
    subst h2
    exact ⟨s0, sr, f0, fr, h1, rfl, Sl.keep e h3 (fun a ha => k a (List.mem_append_left _ ha)), Sls.keep e h4 fun a ha => k a (List.mem_append_right _ ha)⟩
end
theorem Sls.length {R : RC} {G H : Hp} : ∀ {es : List EV} {s : List (Option V)} {f : List Addr}, Sls R G H es s f → es.length = s.length
  | [], s, _, h => by
    have e : s = [] := h.1
    subst e; rfl
  | ev :: es, s, f, h => by
    obtain ⟨s0, sr, f0, fr, h1, h2, h3, h4⟩ := h
    rw [h1, List.length_cons, List.length_cons, Sls.length h4]
/-- one slot, and how it may be put anew -/
theorem Sls.at {R : RC} {G H : Hp} : ∀ {es : List EV} {s : List (Option V)} {f : List Addr} {i : Nat} {ev : EV}, Sls R G H es s f → es[i]? = some ev →
    ∃ (s0 : Option V) (f1 f2 f3 : List Addr), s[i]? = some s0 ∧ f = f1 ++ f2 ++ f3 ∧ Sl R G H ev s0 f2 ∧
      ∀ (G' H' : Hp) (ev' : EV) (s' : Option V) (f' : List Addr), Sub G G' → (∀ a ∈ f1 ++ f3, ∀ o, H a = some o → H' a = some o) → Sl R G' H' ev' s' f' → Sls R G' H' (es.set i ev') (s.set i s') (f1 ++ f' ++ f3)
  | [], _, _, _, _, _, e => by simp at e
  | x :: es, s, f, 0, ev, h, e => by
    obtain ⟨s0, sr, f0, fr, h1, h2, h3, h4⟩ := h
    simp only [List.getElem?_cons_zero, Option.some.injEq] at e
    subst e h1 h2
    refine ⟨s0, [], f0, fr, rfl, rfl, h3, fun G' H' ev' s' f' hs hk hev => ?_⟩
    exact ⟨s', sr, f', fr, rfl, rfl, hev, h4.keep hs fun a ha => hk a (by simpa using ha)⟩
  | x :: es, s, f, i + 1, ev, h, e => by
    obtain ⟨s0, sr, f0, fr, h1, h2, h3, h4⟩ := h
    obtain ⟨t0, f1, f2, f3, e1, e2, e3, e4⟩ := Sls.at h4 (show es[i]? = some ev by simpa using e)
    subst h1 h2 e2
    refine ⟨t0, f0 ++ f1, f2, f3, by simpa using e1, by simp [List.append_assoc], e3, fun G' H' ev' s' f' hs hk hev => ?_⟩
    refine ⟨s0, sr.set i s', f0, f1 ++ f' ++ f3, rfl, by simp [List.append_assoc], h3.keep hs (fun a ha => hk a (by simp [ha])), e4 G' H' ev' s' f' hs (fun a ha => hk a (by
      rcases List.mem_append.mp ha with z | z <;> simp [z])) hev⟩

structure EnvOk (R : RC) (G H : Hp) (env : List EV) (σ : List (Option V)) (fps : List Addr) : Prop where
  sub : Sub G H
  sl : Sls R G H env σ fps
  nd : fps.Nodup
  fr : ∀ a ∈ fps, G a = none
  nt : ∀ a o, G a = some o → NT o
  tb : LamX.Tabs R.T H
/-- nothing stands at a, but a table perhaps -/
def Fre (H : Hp) (a : Addr) : Prop := ∀ o, H a = some o → ∃ ps, o = .tbl ps
theorem Fre.free {H : Hp} {a : Addr} (h : H a = none) : Fre H a := fun o e => by rw [h] at e; cases e
theorem Fre.not {H : Hp} {a : Addr} {o : HO} (z : Fre H a) (h : H a = some o) (nt : NT o) : False := by
  obtain ⟨ps, e⟩ := z o h
  exact nt ps e
/-- what a piece of code may do: the frozen part grows, by new objects or by own ones; all but the own objects stays -/
structure Stp (G H : Hp) (f : List Addr) (G' H' : Hp) (f' : List Addr) : Prop where
  sub : Sub G G'
  keep : ∀ a o, H a = some o → a ∉ f → NT o → H' a = some o
  grow : ∀ a o, G' a = some o → G a = some o ∨ Fre H a ∨ a ∈ f
  own : ∀ a ∈ f', a ∈ f ∨ Fre H a
theorem Stp.refl (G H : Hp) (f : List Addr) : Stp G H f G H f := ⟨.refl G, fun _ _ h _ _ => h, fun _ _ h => .inl h, fun _ h => .inl h⟩
theorem Stp.less {G H : Hp} {f f' : List Addr} (h : ∀ a ∈ f', a ∈ f) : Stp G H f G H f' := ⟨.refl G, fun _ _ h _ _ => h, fun _ _ h => .inl h, fun a ha => .inl (h a ha)⟩
theorem Stp.trans {G H G1 H1 G2 H2 : Hp} {f f1 f2 : List Addr} (a : Stp G H f G1 H1 f1) (b : Stp G1 H1 f1 G2 H2 f2) : Stp G H f G2 H2 f2 := by
  have back : ∀ c, Fre H1 c → c ∈ f ∨ Fre H c := fun c n => by
    by_cases hc : c ∈ f
    · exact .inl hc
    · refine .inr fun o q => ?_
      by_cases nt : NT o
      · exact n o (a.keep c o q hc nt)
      · exact Classical.byContradiction fun z => nt fun ps e => z ⟨ps, e⟩
  refine ⟨a.sub.trans b.sub, fun c o h hc nt => b.keep c o (a.keep c o h hc nt) (fun z => ?_) nt, fun c o h => ?_, fun c hc => ?_⟩
  · rcases a.own c z with z | z
    · exact hc z
    · exact z.not h nt
  · rcases b.grow c o h with z | z | z
    · exact a.grow c o z
    · exact .inr ((back c z).symm)
    · exact .inr ((a.own c z).symm)
  · rcases b.own c hc with z | z
    · exact a.own c z
    · exact back c z
/-- new objects alone -/
structure Alo (G H G' H' : Hp) : Prop where
  sub : Sub G G'
  keep : Sub H H'
  grow : ∀ a o, G' a = some o → G a = some o ∨ H a = none
  inn : Sub G' H'
  nt : ∀ a o, G' a = some o → G a = some o ∨ NT o
theorem Alo.refl {G H : Hp} (h : Sub G H) : Alo G H G H := ⟨.refl _, .refl _, fun _ _ h => .inl h, h, fun _ _ h => .inl h⟩
theorem Alo.trans {G H G1 H1 G2 H2 : Hp} (a : Alo G H G1 H1) (b : Alo G1 H1 G2 H2) : Alo G H G2 H2 := by
  refine ⟨a.sub.trans b.sub, a.keep.trans b.keep, fun c o h => ?_, b.inn, fun c o h => (b.nt c o h).elim (a.nt c o) .inr⟩
  rcases b.grow c o h with z | z
  · exact a.grow c o z
  · refine .inr ?_
    cases q : H c with
    | none => rfl
    | some u => rw [a.keep c u q] at z; cases z
theorem upd_sub {G H : Hp} {p : Addr} {o : HO} (s : Sub G H) (h : H p = none) : Sub G (upd G p o) := fun a u e => by
  by_cases ha : a = p
  · subst ha; rw [s _ _ e] at h; cases h
  · rw [upd_ne ha]; exact e
/-- a new object laid, frozen at once -/
theorem Alo.new {G H : Hp} {p : Addr} {o : HO} (s : Sub G H) (h : H p = none) (nt : NT o := by intro _ z; cases z) : Alo G H (upd G p o) (upd H p o) := by
  refine ⟨upd_sub s h, upd_sub (.refl H) h, fun a u e => ?_, fun a u e => ?_, fun a u e => ?_⟩
  · by_cases ha : a = p
    · subst ha; exact .inr h
    · rw [upd_ne ha] at e; exact .inl e
  · by_cases ha : a = p
    · subst ha; rw [upd_same] at e ⊢; exact e
    · rw [upd_ne ha] at e ⊢; exact s _ _ e
  · by_cases ha : a = p
    · subst ha; rw [upd_same] at e; cases e; exact .inr nt
    · rw [upd_ne ha] at e; exact .inl e
theorem Alo.stp {G H G' H' : Hp} (a : Alo G H G' H') (f : List Addr) : Stp G H f G' H' f :=
  ⟨a.sub, fun c o h _ _ => a.keep c o h, fun c o h => (a.grow c o h).elim .inl fun z => .inr (.inl (.free z)), fun _ h => .inl h⟩
theorem Sls.live {R : RC} {G H : Hp} : True := trivial
mutual
theorem Sl.there {R : RC} {G H : Hp} : ∀ {ev : EV} {s : Option V} {f : List Addr}, Sl R G H ev s f → ∀ a ∈ f, ∃ o, H a = some o ∧ NT o ∧ ∀ c q, o ≠ LamX.CodeO c q
  | .un, _, _, h, a, ha => by rw [show _ = [] from h] at ha; cases ha
  | .v d, _, _, h, a, ha => by rw [h.1] at ha; cases ha
  | .ol xs, _, f, h, a, ha => by
    obtain ⟨b, vs, f', h1, h2, h3, h4⟩ := h
    subst h3
    rcases List.mem_cons.mp ha with z | z
    · exact ⟨_, z ▸ h2, fun _ y => (by cases y), fun c q y => (by have y' : HO.lst vs = HO.ext _ := y; cases y')⟩
    · exact Sls.there h4 a z
  | .oi c fn fv, _, f, h, a, ha => by
    obtain ⟨b, dx, C, fs, f', h1, h2, h3, h4, h5, h6⟩ := h
    subst h5
    rcases List.mem_cons.mp ha with z | z
    · exact ⟨_, z ▸ h3, fun _ y => (by cases y), fun c q y => (by have y' : HO.ins C dx fs = HO.ext _ := y; cases y')⟩
    · exact Sls.there h6 a z
  | .od t ks xs, _, f, h, a, ha => by
    obtain ⟨b, vs, f', h1, h2, h3, h4⟩ := h
    subst h3
    rcases List.mem_cons.mp ha with z | z
    · obtain ⟨o, z1, z2, z3⟩ := h2.there
      exact ⟨o, z ▸ z1, z2, z3⟩
    · exact Sls.there h4 a z
theorem Sls.there {R : RC} {G H : Hp} : ∀ {es : List EV} {s : List (Option V)} {f : List Addr}, Sls R G H es s f → ∀ a ∈ f, ∃ o, H a = some o ∧ NT o ∧ ∀ c q, o ≠ LamX.CodeO c q
  | [], _, f, h, a, ha => by rw [show f = [] from h.2] at ha; cases ha
  | ev :: es, s, f, h, a, ha => by
    obtain ⟨s0, sr, f0, fr, h1, h2, h3, h4⟩ := h
    subst h2
    rcases List.mem_append.mp ha with z | z
    · exact Sl.there h3 a z
    · exact Sls.there h4 a z
end
/-- the slots behind new objects -/
theorem EnvOk.alo {R : RC} {G H G' H' : Hp} {env : List EV} {σ : List (Option V)} {f : List Addr} (e : EnvOk R G H env σ f) (a : Alo G H G' H') : EnvOk R G' H' env σ f := by
  refine ⟨a.inn, e.sl.keep a.sub fun c _ o h => a.keep c o h, e.nd, fun c hc => ?_, fun c o h => (a.nt c o h).elim (e.nt c o) id, e.tb.ext a.keep⟩
  cases q : G' c with
  | none => rfl
  | some o =>
    rcases a.grow c o q with z | z
    · rw [e.fr c hc] at z; cases z
    · obtain ⟨u, hu, _⟩ := e.sl.there c hc
      rw [hu] at z; cases z
end DL

/-! ### tuples just made: known to the object, without a dict -/
namespace DL
open PySem PySem.Spec PyProof.Rows L2
/-- what follows where a tuple of these items has been made -/
def Newt (xs : List V) (H : Hp) (Q : VK) : Prop := ∀ p o, H p = none → o.dict = none → Q (.ref p) (upd H p (.frz o (.tup xs)))
section
variable {X : Cx} {pins : List (Addr × Obj)} {σ : L2.St} {H : Hp} {s : Shared} {Q : VK}
theorem newt_end {xs : List V} {us : List Value} {h' : Heap} {tk : Nat} (I : Inv X pins σ H { s with heap := h', toks := tk }) (r : Vals xs us) (hz : xs.length ≤ sizeLine) (q : Newt xs H Q) :
    EP X pins σ Q (.ref h'.objs.size) { s with heap := h'.push { cls := .type "tuple", data := .seq us.toArray }, toks := tk } := by
  have gp := Heap.get?_push_size h' (o := { cls := .type "tuple", data := .seq us.toArray }) rfl
  refine ⟨.ref h'.objs.size, upd H h'.objs.size (.frz { cls := .type "tuple", data := .seq us.toArray } (.tup xs)), I.laid (t' := tk) (fun b u e => Heap.get?_push_of_some _ e) (Nat.le_refl _) ?_, rfl, q _ _ (I.hok.fresh (Nat.le_refl _)) rfl⟩
  exact ⟨gp, hz, us, r, ⟨_, gp, rfl, _, rfl⟩⟩
end
section
variable {X : Cx} {es : List Expr} {t : TA} {pos : Pos}
def tTupZ (t : TA) : TE := fun σ H Q => t σ H fun xs H1 => xs.length ≤ sizeLine ∧ Newt xs H1 Q
theorem pe_tupZ {k : Nat} (h : PA X es t) : PE X (.Tuple es k pos) (tTupZ t) := ⟨fun pins s σ H Q I q0 =>
  wpAny_Tuple_spliced (thn (h.run pos pins s σ H _ I q0) fun us s1 ⟨xs, H1, I1, r, z, q⟩ => ⟨r.length ▸ z, newt_end (s := s1) (tk := s1.toks) I1 r z q⟩)⟩
def rCatZ (K : PySem.W.Frag) : R2 := fun x y H Q => ∃ a b xs ys, x = .ref a ∧ y = .ref b ∧ SqT K H a xs ∧ SqT K H b ys ∧ xs.length + ys.length ≤ sizeLine ∧
  (xs = [] → Q (.ref b) H) ∧ (xs ≠ [] → ys = [] → Q (.ref a) H) ∧ Newt (xs ++ ys) H Q
theorem op_catZ : OpR X (binaryOp .Add) (rCatZ X.K) := by
  intro pins s σ H x y v u Q I rx ry ⟨a, b, xs, ys, ex, ey, ha, hb, hz, q0, q1, q2⟩
  subst ex ey
  cases rx
  cases ry
  obtain ⟨as, r1, p1, _⟩ := I.tuple ha
  obtain ⟨bs, r2, p2, _⟩ := I.tuple hb
  by_cases hx : xs = []
  · subst hx
    cases r1
    exact cat_tup0 p1 p2 ⟨.ref b, H, I, rfl, q0 rfl⟩
  · refine HT.cat_tup p1 p2 (fun z => hx (r1.nil_iff.mp z)) (fun z => ⟨.ref a, H, I, rfl, q1 hx (r2.nil_iff.mp z)⟩) (fun _ => ?_) (by rw [← r1.length, ← r2.length]; exact hz)
    exact newt_end (s := s) (tk := s.toks) I (r1.append r2) (by rw [List.length_append]; exact hz) q2
def rSlZ (K : PySem.W.Frag) : V → Option Int → Option Int → Hp → VK → Prop := fun x lo hi H Q => ∃ a xs, x = .ref a ∧ SqT K H a xs ∧
  (HT.sIx xs.length 0 lo = 0 ∧ HT.sIx xs.length xs.length hi = xs.length → Q (.ref a) H) ∧ Newt (cutV xs lo hi) H Q
theorem sl_tupZ : SlR X (rSlZ X.K) := by
  intro pins s σ H x v vl vu lo hi sl Q I rx hs pl pu ⟨a, xs, ex, hx, q1, q2⟩
  subst ex
  cases rx
  obtain ⟨as, r, ht, hz⟩ := I.tuple hx
  have ln : as.toArray.size = xs.length := by simpa using r.length.symm
  refine ⟨"tuple", _, PyProof.Rows.slot_tuple_getitem.lookup, ht.typeIs, ?_⟩
  by_cases hw : HT.sIx xs.length 0 lo = 0 ∧ HT.sIx xs.length xs.length hi = xs.length
  · exact getItem_tuple_whole ht hs pl pu (by rw [ln]; exact hw) ⟨.ref a, H, I, rfl, q1 hw⟩
  · refine HT.getItem_tuple_cut ht hs pl pu (by rw [ln]; exact hw) ?_ (by rw [ln]; exact hz)
    rw [ln]
    exact newt_end (s := s) (tk := s.toks) I ((r.drop _).take _) (Nat.le_trans (cutV_length xs lo hi) hz) q2
abbrev rTupOfZ (K : PySem.W.Frag) : List V → Hp → VK → Prop := fun xs H Q => ∃ p ys, xs = [.ref p] ∧ ((SqL K H p ys ∧ Newt ys H Q) ∨ (SqT K H p ys ∧ Q (.ref p) H))
theorem call_tuple_ofZ : CallR X (.type "tuple") (rTupOfZ X.K) := by
  intro pins s σ H xs us Q I r ⟨p, ys, ex, h⟩
  subst ex
  obtain ⟨u, eu, rx⟩ := vals1 r
  subst eu
  cases rx
  rcases h with ⟨hq, q⟩ | ⟨hq, q⟩
  · obtain ⟨its, r', pl, hz⟩ := I.list hq
    have hlen := r'.length
    refine call_tuple_list pl.isList (fun h' kq => newt_end (s := s) (tk := s.toks) (I.kept kq) r' hz q) ?_
    simp only [List.size_toArray]
    omega
  · obtain ⟨its, _, pl, _⟩ := I.tuple hq
    exact call_tuple_same pl ⟨.ref p, H, I, rfl, q⟩
/-- tuple(range(..)) -/
def tTupRgZ (te : L2.St → Hp → (Int → Int → Hp → Prop) → Prop) : TE := fun σ H Q => te σ H fun a b H1 => RgOk a b ∧ Newt (rgV a b) H1 Q
theorem pe_tupRgZ {e : Expr} {te : L2.St → Hp → (Int → Int → Hp → Prop) → Prop} {p : Pos} (hc : X.calm = true) (hg : Gl X "tuple") (hm : X.mg "tuple" = none) (he : PRg X e te) (na : starEach [e] X.env = (false, eval e X.env) :: starEach [] X.env := by rfl) : PE X (.Call (.Name "tuple" p) [e] [] pos) (tTupRgZ te) := by
  refine ⟨fun pins s σ H Q I h => Call_ (ld_blt I hg hm boot_tuple (PyProof.Rows.callWith_type1 (args_cons (thn (he pins s σ H _ I h) fun x s1 ⟨r, a, b, t, u, v, H1, ex, hr, I1, ok, q⟩ => args_nil ?_) na) na))⟩
  subst ex
  obtain ⟨b1, b2, b3, b4, b5⟩ := ok
  refine call_tuple_range (n := (b - a).toNat) (I1.ok.hd hc) hr (small_one b1 b2 b3 b4) (rangeSize_nat a b) b5 fun h' tk acc hk hi => ?_
  have lz : (rgV a b).length ≤ sizeLine := by rw [rgV_length, sizeLine_eq]; omega
  have z := newt_end (s := s1) (tk := tk) (I1.kept hk) (vals_rg hi) lz q
  rw [Array.toArray_toList] at z
  exact z
end
end DL

namespace DL
open PySem PySem.Spec PyProof.Rows L2

/-- an exception of an own class with one field -/
structure XV where
  cls : Str
  fld : Str
  val : D
inductive Out (α : Type) where
  | ok (a : α) (e : List EV) | ex (x : XV) (e : List EV) | no
abbrev M (α : Type) := List EV → Out α
@[simp] def Out.bind {α β : Type} : Out α → (α → List EV → Out β) → Out β
  | .ok a e, k => k a e
  | .ex x e, _ => .ex x e
  | .no, _ => .no
def bnd {α β : Type} (m : M α) (k : α → M β) : M β := fun e => (m e).bind k
def ofO {α : Type} : Option α → M α
  | some a, e => .ok a e
  | none, _ => .no
@[simp] theorem ofO_some {α : Type} (a : α) (e : List EV) : ofO (some a) e = .ok a e := rfl
@[simp] theorem ofO_none {α : Type} (e : List EV) : (ofO (none : Option α)) e = .no := rfl

/-- how an exception lies -/
def ExR (R : RC) (G : Hp) (x : XV) (c : Value) (dd : Option Addr) : Prop :=
  ∃ C d v, R.mg x.cls = some (.ref C) ∧ c = .ref C ∧ dd = some d ∧ G d = some (.xd [(x.fld, v)]) ∧ Rep R G x.val v

section
variable {α β γ δ : Type}
/-- what is asked where the outcome is m -/
def At (R : RC) (W : WX) (P : Hp → α → β → Prop) (m : Out α) (G H : Hp) (f : List Addr) (σ : L2.St) (Q : β → Hp → Prop) : Prop :=
  match m with
  | .ok a e => ∀ b G' H' f', Stp G H f G' H' f' → EnvOk R G' H' e σ f' → P G' a b → Q b H'
  | .ex x e => ∀ c d G' H' f', Stp G H f G' H' f' → EnvOk R G' H' e σ f' → ExR R G' x c d → W c d σ H'
  | .no => False
theorem At.step {R : RC} {W : WX} {P : Hp → α → β → Prop} {m : Out α} {G H G1 H1 : Hp} {f f1 : List Addr} {σ : L2.St} {Q : β → Hp → Prop} (h : At R W P m G H f σ Q) (s : Stp G H f G1 H1 f1) : At R W P m G1 H1 f1 σ Q := by
  cases m with
  | ok a e => exact fun b G' H' f' s' => h b G' H' f' (s.trans s')
  | ex x e => exact fun c d G' H' f' s' => h c d G' H' f' (s.trans s')
  | no => exact h
/-- the reading of a piece whose meaning is F -/
def tM (R : RC) (W : WX) (P : Hp → α → β → Prop) (F : M α) : L2.St → Hp → (β → Hp → Prop) → Prop := fun σ H Q => ∃ G env f, EnvOk R G H env σ f ∧ At R W P (F env) G H f σ Q
theorem tM_bind {R : RC} {W : WX} {P1 : Hp → α → β → Prop} {P2 : Hp → γ → δ → Prop} {F : M α} {k : α → M γ} {σ : L2.St} {H : Hp} {Q : δ → Hp → Prop} (h : tM R W P2 (bnd F k) σ H Q) :
    tM R W P1 F σ H fun b H1 => ∃ G1 env1 f1 a, EnvOk R G1 H1 env1 σ f1 ∧ P1 G1 a b ∧ At R W P2 (k a env1) G1 H1 f1 σ Q := by
  obtain ⟨G, env, f, e, h⟩ := h
  refine ⟨G, env, f, e, ?_⟩
  have h : At R W P2 ((F env).bind k) G H f σ Q := h
  cases q : F env with
  | ok a e1 =>
    rw [q] at h
    exact fun b G' H' f' s e' p => ⟨G', e1, f', a, e', p, h.step s⟩
  | ex x e1 => rw [q] at h; exact h
  | no => rw [q] at h; exact h
/-- the same, something told beside -/
theorem tM_bind2 {R : RC} {W : WX} {P1 : Hp → α → β → Prop} {P2 : Hp → γ → δ → Prop} {F : M α} {k : α → M γ} {σ : L2.St} {G H : Hp} {env : List EV} {f : List Addr} {Q : δ → Hp → Prop} {J : Hp → Prop} (hJ : ∀ G', Sub G G' → J G') (e : EnvOk R G H env σ f)
    (h : At R W P2 (bnd F k env) G H f σ Q) : tM R W P1 F σ H fun b H1 => ∃ G1 env1 f1 a, EnvOk R G1 H1 env1 σ f1 ∧ P1 G1 a b ∧ J G1 ∧ At R W P2 (k a env1) G1 H1 f1 σ Q := by
  refine ⟨G, env, f, e, ?_⟩
  have h : At R W P2 ((F env).bind k) G H f σ Q := h
  cases q : F env with
  | ok a e1 =>
    rw [q] at h
    exact fun b G' H' f' s e' p => ⟨G', e1, f', a, e', p, hJ G' s.sub, h.step s⟩
  | ex x e1 => rw [q] at h; exact h
  | no => rw [q] at h; exact h
/-- the end: a pure answer, new objects laid -/
theorem At.fin {R : RC} {W : WX} {P : Hp → α → β → Prop} {o : Option α} {G H : Hp} {env : List EV} {f : List Addr} {σ : L2.St} {Q : β → Hp → Prop} (e : EnvOk R G H env σ f) (h : At R W P (ofO o env) G H f σ Q) :
    ∃ a, o = some a ∧ ∀ b G' H', Alo G H G' H' → P G' a b → Q b H' := by
  cases o with
  | none => exact h.elim
  | some a => exact ⟨a, rfl, fun b G' H' s p => h b G' H' f (s.stp f) (e.alo s) p⟩
end
theorem PE.imp {X : Cx} {e : Expr} {t t' : TE} (h : PE X e t) (w : ∀ σ H Q, t' σ H Q → t σ H Q) : PE X e t' := ⟨fun pins s σ H Q I q => h.run pins s σ H Q I (w σ H Q q)⟩
theorem PT.imp {X : Cx} {e : Expr} {t t' : TT} (h : PT X e t) (w : ∀ σ H Q, t' σ H Q → t σ H Q) : PT X e t' := ⟨fun pins s σ H Q I q => h.run pins s σ H Q I (w σ H Q q)⟩
theorem PW.imp {X : Cx} {e : Expr} {t t' : TT} (h : PW X e t) (w : ∀ σ H Q, t' σ H Q → t σ H Q) : PW X e t' := ⟨fun wh pins s σ H Q I q => h.run wh pins s σ H Q I (w σ H Q q)⟩
theorem PA.imp {X : Cx} {es : List Expr} {t t' : TA} (h : PA X es t) (w : ∀ σ H Q, t' σ H Q → t σ H Q) : PA X es t' := ⟨fun pos pins s σ H Q I q => h.run pos pins s σ H Q I (w σ H Q q)⟩
theorem PS.imp {X : Cx} {st : Stmt} {t t' : TS} (h : PS X st t) (w : ∀ D σ H, t' D σ H → t D σ H) : PS X st t' := ⟨fun pins s σ H D I q => h.run pins s σ H D I (w D σ H q)⟩
theorem PSs.imp {X : Cx} {st : List Stmt} {t t' : TS} (h : PSs X st t) (w : ∀ D σ H, t' D σ H → t D σ H) : PSs X st t' := ⟨fun pins s σ H D I q => h.run pins s σ H D I (w D σ H q)⟩

variable [LT]
abbrev rc (X : Cx) : RC := ⟨X.K, X.mg, LT.tf X.K⟩
def PB : Hp → Bool → Bool → Prop := fun _ a b => a = b
/-- an expression whose value is plain data -/
def DE (X : Cx) (W : WX) (e : Expr) (F : M D) : Prop := PE X e (tM (rc X) W (Rep (rc X)) F)
/-- a test -/
def DT (X : Cx) (W : WX) (e : Expr) (F : M Bool) : Prop := PT X e (tM (rc X) W PB F)
/-- arguments, plain data all -/
def DAs (X : Cx) (W : WX) (es : List Expr) (F : M (List D)) : Prop := PA X es (tM (rc X) W (Reps (rc X)) F)

section
variable {X : Cx} {W : WX} {a b : Expr} {Fa Fb : M D} {pos : Pos}
/-! ### constants -/
def cst (d : D) : M D := fun e => .ok d e
theorem de_cst {e : Expr} {v : V} {d : D} (h : PE X e (tC v)) (r : ∀ G, Rep (rc X) G d v) : DE X W e (cst d) := PE.imp h fun σ H Q ⟨G, env, f, e, q⟩ => q v G H f (.refl _ _ _) e (r G)
theorem de_int {i j pos} : DE X W (.Constant (.int i) j pos) (cst (.int i)) := de_cst pe_int fun _ => rfl
theorem de_bl {b j pos} : DE X W (.Constant (.bool b) j pos) (cst (.bl b)) := de_cst pe_bl fun _ => rfl
theorem de_non {j pos} : DE X W (.Constant .none j pos) (cst .non) := de_cst pe_non fun _ => rfl
theorem de_str {x j pos} : DE X W (.Constant (.str x) j pos) (cst (.str x)) := de_cst pe_str fun _ => rfl
/-- a module's int, text -/
theorem de_gint {x : Str} {i : Int} {pos : Pos} (hg : Gl X x) (hm : ∃ t, X.mg x = some (.int i t)) (hd : (x == ("__debug__" : Str)) = false := by decide) : DE X W (.Name x pos) (cst (.int i)) := by
  obtain ⟨t, ht⟩ := hm
  exact de_cst (pe_glob (v := .int i) hg ht ⟨_, rfl⟩ hd) fun _ => rfl
theorem de_gstr {x : Str} {z : Str} {pos : Pos} (hg : Gl X x) (hm : ∃ t, X.mg x = some (.str z t)) (hd : (x == ("__debug__" : Str)) = false := by decide) : DE X W (.Name x pos) (cst (.str z)) := by
  obtain ⟨t, ht⟩ := hm
  exact de_cst (pe_glob (v := .str z) hg ht ⟨_, rfl⟩ hd) fun _ => rfl
/-- a def, a class as a value -/
theorem de_gl {x : Str} {a : Addr} {pos : Pos} (hg : Gl X x) (hm : X.mg x = some (.ref a)) (hd : (x == ("__debug__" : Str)) = false := by decide) : DE X W (.Name x pos) (cst (.gl x)) :=
  de_cst (pe_glob (v := .ref a) hg hm rfl hd) fun _ => ⟨a, hm, rfl⟩
theorem de_ty {x : Str} {n : String} {pos : Pos} (hg : Gl X x) (hm : X.mg x = none) (hv : bootBuiltins x = some (.type n)) (hn : x ≠ "__name__" := by decide) (hd : (x == ("__debug__" : Str)) = false := by decide) : DE X W (.Name x pos) (cst (.ty n)) :=
  de_cst (pe_bltn (v := .ty n) hg hm hv rfl hn hd) fun _ => rfl
/-! ### a slot that holds plain data -/
def rd (i : Nat) : M D := fun e => match e[i]? with
  | some (.v d) => .ok d e
  | _ => .no
theorem de_var {i : Nat} {x : Str} {pos : Pos} (h : PE X (.Name x pos) (tVar i)) : DE X W (.Name x pos) (rd i) := PE.imp h fun σ H Q ⟨G, env, f, e, q⟩ => by
  unfold rd at q
  split at q
  · rename_i d hd
    obtain ⟨s0, f1, f2, f3, h1, h2, h3, h4⟩ := e.sl.at hd
    obtain ⟨_, v, h5, h6⟩ := h3
    subst h5
    exact ⟨v, h1, q v G H f (.refl _ _ _) e h6⟩
  · exact q.elim
/-! ### operators -/
/-- r gives what g tells -/
def OpD (R : RC) (r : R2) (g : D → D → Option D) : Prop := ∀ (G H : Hp) (x y : V) (dx dy d : D) (Q : VK), Sub G H → Rep R G dx x → Rep R G dy y → g dx dy = some d →
  (∀ v G' H', Alo G H G' H' → Rep R G' d v → Q v H') → r x y H Q
def bin2 (g : D → D → Option D) (Fa Fb : M D) : M D := bnd Fa fun x => bnd Fb fun y => ofO (g x y)
theorem tM_op {r : R2} {g : D → D → Option D} {R : RC} (hg : OpD R r g) {σ : L2.St} {H : Hp} {Q : VK} (h : tM R W (Rep R) (bin2 g Fa Fb) σ H Q) : tOp r (tM R W (Rep R) Fa) (tM R W (Rep R) Fb) σ H Q := by
  refine (fun z => z) (tM_bind (P1 := Rep R) h) |> fun ⟨G, env, f, e, q⟩ => ⟨G, env, f, e, ?_⟩
  have mono : ∀ {m : Out D} {G H f} {Q Q' : VK}, (∀ v H', Q v H' → Q' v H') → At R W (Rep R) m G H f σ Q → At R W (Rep R) m G H f σ Q' := fun {m G H f Q Q'} w z => by
    cases m with
    | ok a e => exact fun b G' H' f' s e' p => w _ _ (z b G' H' f' s e' p)
    | ex x e => exact z
    | no => exact z
  refine mono (fun x H1 ⟨G1, env1, f1, dx, e1, p1, q1⟩ => ?_) q
  refine (fun z => z) (tM_bind2 (P1 := Rep R) (J := fun G' => Rep R G' dx x) (fun G' s => p1.mono s) e1 q1) |> fun ⟨G, env, f, e, q⟩ => ⟨G, env, f, e, ?_⟩
  refine mono (fun y H2 ⟨G2, env2, f2, dy, e2, p2, j2, q2⟩ => ?_) q
  obtain ⟨d, hd, q3⟩ := q2.fin e2
  exact hg G2 H2 x y dx dy d Q e2.sub j2 p2 hd q3
theorem de_bin {op : Operator} {r : R2} {g : D → D → Option D} (ho : OpR X (binaryOp op) r) (hg : OpD (rc X) r g) (ha : DE X W a Fa) (hb : DE X W b Fb) : DE X W (.BinOp a op b pos) (bin2 g Fa Fb) :=
  PE.imp (pe_op ho ha hb) fun σ H Q h => tM_op hg h
theorem de_cmp {op : CmpOp} {r : R2} {g : D → D → Option D} (ho : OpR X (compareOp op) r) (hg : OpD (rc X) r g) (ha : DE X W a Fa) (hb : DE X W b Fb) (hm : behindInMarks op b = false) : DE X W (.Compare a [op] [b] pos) (bin2 g Fa Fb) :=
  PE.imp (pe_cmpR ho ha hb hm) fun σ H Q h => tM_op hg h
/-- a value that is a bool, as a test -/
def asB (F : M D) : M Bool := bnd F fun d e => match d with
  | .bl b => .ok b e
  | _ => .no
theorem tM_tB {F : M D} {R : RC} {σ : L2.St} {H : Hp} {Q : Bool → Hp → Prop} (h : tM R W PB (asB F) σ H Q) : tB (tM R W (Rep R) F) σ H Q := by
  obtain ⟨G, env, f, e, q⟩ := tM_bind (P1 := Rep R) h
  refine ⟨G, env, f, e, ?_⟩
  cases z : F env with
  | no => rw [z] at q; exact q
  | ex x e1 => rw [z] at q; exact q
  | ok d e1 =>
    rw [z] at q
    intro v G' H' f' s e' p
    obtain ⟨G1, env1, f1, d1, e2, p2, q2⟩ := q v G' H' f' s e' p
    cases d1 with
    | bl b =>
      cases p2
      exact ⟨b, rfl, q2 b G1 H' f1 (.refl _ _ _) e2 rfl⟩
    | _ => exact q2.elim
theorem dt_cmp {op : CmpOp} {r : R2} {g : D → D → Option D} (ho : OpR X (compareOp op) r) (hg : OpD (rc X) r g) (ha : DE X W a Fa) (hb : DE X W b Fb) (hm : behindInMarks op b = false) : DT X W (.Compare a [op] [b] pos) (asB (bin2 g Fa Fb)) :=
  PT.imp (pt_cmpR ho ha hb hm) fun σ H Q h => by
    obtain ⟨G, env, f, e, q⟩ := tM_tB h
    exact tM_op hg ⟨G, env, f, e, q⟩
theorem dt_val {e : Expr} {F : M D} (h : DE X W e F) (he : ∀ whole, isTrue e X.env whole = (do let v ← whole; standAt e.pos; holding [v] (truthy v)) := by intro _; rfl) : DT X W e (asB F) :=
  PT.imp (pt_val h he) fun σ H Q q => tM_tB q
end
end DL

namespace DL
open PySem PySem.Spec PyProof.Rows L2
variable [LT]

/-! ### plain data as the library's -/
mutual
def toP : D → Option PyData
  | .non => some .none
  | .bl b => some (.bool b)
  | .int i => some (.int i)
  | .str s => some (.str s)
  | .tup xs => (toPs xs).map .tuple
  | .lst xs => (toPs xs).map .list
  | _ => none
def toPs : List D → Option (List PyData)
  | [] => some []
  | x :: xs => match toP x, toPs xs with
    | some p, some ps => some (p :: ps)
    | _, _ => none
end
mutual
theorem dp_of {R : RC} {G H : Hp} (s : Sub G H) : ∀ {d : D} {v : V} {p : PyData}, Rep R G d v → toP d = some p → Dp R.K H v p
  | .non, v, p, h, e => by cases e; rw [show v = .non from h]; exact .non
  | .bl b, v, p, h, e => by cases e; rw [show v = .bl b from h]; exact .bl b
  | .int i, v, p, h, e => by cases e; rw [show v = .int i from h]; exact .int i
  | .str z, v, p, h, e => by cases e; rw [show v = .str z from h]; exact .str z
  | .tup xs, v, p, h, e => by
    obtain ⟨a, vs, h1, h2, h3⟩ := h
    subst h1
    obtain ⟨ps, e1, e2⟩ := Option.map_eq_some_iff.mp (show (toPs xs).map PyData.tuple = some p from e)
    subst e2
    exact .tup (s.tpA h2).sq (dps_of s h3 e1)
  | .lst xs, v, p, h, e => by
    obtain ⟨a, vs, h1, h2, h3⟩ := h
    subst h1
    obtain ⟨ps, e1, e2⟩ := Option.map_eq_some_iff.mp (show (toPs xs).map PyData.list = some p from e)
    subst e2
    exact .lst (SqL.of (s _ _ h2)) (dps_of s h3 e1)
  | .ty _, _, _, _, e => by cases e
  | .gl _, _, _, _, e => by cases e
  | .ins _ _ _, _, _, _, e => by cases e
  | .scr _, _, _, _, e => by cases e
  | .exc _ _ _, _, _, _, e => by cases e
theorem dps_of {R : RC} {G H : Hp} (s : Sub G H) : ∀ {ds : List D} {vs : List V} {ps : List PyData}, Reps R G ds vs → toPs ds = some ps → DpAll R.K H vs ps
  | [], vs, ps, h, e => by cases e; rw [show vs = [] from h]; exact .nil
  | x :: xs, vs, ps, h, e => by
    obtain ⟨v, r, h1, h2, h3⟩ := h
    subst h1
    have e : (match toP x, toPs xs with | some p, some ps => some (p :: ps) | _, _ => none) = some ps := by rw [← e]; simp only [toPs]
    cases q1 : toP x with
    | none => rw [q1] at e; cases e
    | some p =>
      cases q2 : toPs xs with
      | none => rw [q1, q2] at e; cases e
      | some pr =>
        rw [q1, q2] at e
        cases e
        exact .cons (dp_of s h2 q1) (dps_of s h3 q2)
end

/-! ### what the operators tell -/
def eqD (x y : D) : Option Bool := match toP x, toP y with
  | some p, some q => if SeqAt.shaped p && SeqAt.shaped q then some (PyData.eqv p q) else none
  | _, _ => none
def gEq (x y : D) : Option D := (eqD x y).map .bl
def gNe (x y : D) : Option D := (eqD x y).map fun b => .bl (!b)
def gAdd : D → D → Option D
  | .int i, .int j => some (.int (i + j))
  | .str a, .str b => if a.length + b.length ≤ 16777216 then some (.str (a ++ b)) else none
  | .lst xs, .lst ys => if xs.length + ys.length ≤ 16777216 then some (.lst (xs ++ ys)) else none
  | .tup xs, .tup ys => if xs.length + ys.length ≤ 16777216 then some (.tup (xs ++ ys)) else none
  | _, _ => none
def gSub : D → D → Option D
  | .int i, .int j => some (.int (i - j))
  | _, _ => none
def gMul : D → D → Option D
  | .int i, .int j => if (i.natAbs < 18446744073709551616 ∨ j.natAbs < 18446744073709551616) then some (.int (i * j)) else none
  | .lst xs, .int k => if -9223372036854775808 ≤ k ∧ k < 9223372036854775808 ∧ xs.length * k.toNat ≤ 16777216 then some (.lst (List.replicate k.toNat xs).flatten) else none
  | _, _ => none
def gDiv : D → D → Option D
  | .int i, .int j => if 0 < j ∧ j < 1073741824 then some (.int (i / j)) else none
  | _, _ => none
def gMod : D → D → Option D
  | .int i, .int j => if 0 < j then some (.int (i % j)) else none
  | _, _ => none
def gPow : D → D → Option D
  | .int i, .int j => if 0 ≤ j ∧ j ≤ 1000000 ∧ i.natAbs < 18446744073709551616 then some (.int (i ^ j.toNat)) else none
  | _, _ => none
def gCmp (p : Int → Int → Bool) : D → D → Option D
  | .int i, .int j => some (.bl (p i j))
  | _, _ => none
abbrev gLt := gCmp fun i j => decide (i < j)
abbrev gLe := gCmp fun i j => decide (i ≤ j)
abbrev gGt := gCmp fun i j => decide (j < i)
abbrev gGe := gCmp fun i j => decide (j ≤ i)
/-- x is None (y is None) -/
def gIsN : D → D → Option D
  | .non, .non => some (.bl true)
  | _, .non => some (.bl false)
  | _, _ => none
def gNotN : D → D → Option D
  | .non, .non => some (.bl false)
  | _, .non => some (.bl true)
  | _, _ => none
def gIx : D → D → Option D
  | .lst xs, .int i => atI xs i
  | .tup xs, .int i => atI xs i
  | .scr ns, .int i => (atI ns i).map .int
  | .str z, .int i => if z.length ≤ 16777216 then (atI z.cps.toList i).map fun c => .str ⟨#[c]⟩ else none
  | _, _ => none

theorem atI_map {α β : Type} (g : α → β) (xs : List α) (i : Int) : atI (xs.map g) i = (atI xs i).map g := by
  unfold atI
  rw [List.length_map]
  cases ixN xs.length i with
  | none => rfl
  | some j => simp
theorem Reps.atI {R : RC} {G : Hp} {xs : List D} {vs : List V} {i : Int} {d : D} (h : Reps R G xs vs) (e : atI xs i = some d) : ∃ v, L2.atI vs i = some v ∧ Rep R G d v := by
  unfold L2.atI at e ⊢
  rw [← h.length]
  cases q : ixN xs.length i with
  | none => rw [q] at e; cases e
  | some j =>
    rw [q] at e
    exact h.get e

theorem OpD.or1 {R : RC} {r r' : R2} {g : D → D → Option D} (h : OpD R r g) : OpD R (fun x y H Q => r x y H Q ∨ r' x y H Q) g := fun G H x y dx dy d Q s rx ry e q => .inl (h G H x y dx dy d Q s rx ry e q)
section
variable {X : Cx}
theorem od_sub : OpD (rc X) (rI0 fun i j => .int (i - j)) gSub := by
  intro G H x y dx dy d Q s rx ry e q
  cases dx with
  | int i =>
    cases dy with
    | int j => cases e; exact ⟨i, j, rx, ry, q _ G H (.refl s) rfl⟩
    | _ => cases e
  | _ => cases e
theorem od_cmp {p : Int → Int → Bool} : OpD (rc X) (rI0 fun i j => .bl (p i j)) (gCmp p) := by
  intro G H x y dx dy d Q s rx ry e q
  cases dx with
  | int i =>
    cases dy with
    | int j => cases e; exact ⟨i, j, rx, ry, q _ G H (.refl s) rfl⟩
    | _ => cases e
  | _ => cases e
theorem od_div : OpD (rc X) (rI CDiv fun i j => .int (i / j)) gDiv := by
  intro G H x y dx dy d Q s rx ry e q
  cases dx with
  | int i =>
    cases dy with
    | int j =>
      simp only [gDiv] at e
      split at e
      · rename_i h; cases e; exact ⟨i, j, rx, ry, h, q _ G H (.refl s) rfl⟩
      · cases e
    | _ => cases e
  | _ => cases e
theorem od_mod : OpD (rc X) (rI (fun _ j => 0 < j) fun i j => .int (i % j)) gMod := by
  intro G H x y dx dy d Q s rx ry e q
  cases dx with
  | int i =>
    cases dy with
    | int j =>
      simp only [gMod] at e
      split at e
      · rename_i h; cases e; exact ⟨i, j, rx, ry, h, q _ G H (.refl s) rfl⟩
      · cases e
    | _ => cases e
  | _ => cases e
theorem od_pow : OpD (rc X) (rI CPow fun i j => .int (i ^ j.toNat)) gPow := by
  intro G H x y dx dy d Q s rx ry e q
  cases dx with
  | int i =>
    cases dy with
    | int j =>
      simp only [gPow] at e
      split at e
      · rename_i h; cases e; exact ⟨i, j, rx, ry, h, q _ G H (.refl s) rfl⟩
      · cases e
    | _ => cases e
  | _ => cases e
def rAddU (K : PySem.W.Frag) : R2 := fun x y H Q => rI0 (fun i j => .int (i + j)) x y H Q ∨ ((∃ i j, x = .str i ∧ y = .str j ∧ i.length + j.length ≤ sizeLine ∧ Q (.str (i ++ j)) H) ∨ (rCat x y H Q ∨ rCatZ K x y H Q))
theorem op_addU : OpR X (binaryOp .Add) (rAddU X.K) := op_add.or (op_add_str.or (op_cat.or op_catZ))
theorem od_add : OpD (rc X) (rAddU X.K) gAdd := by
  intro G H x y dx dy d Q s rx ry e q
  cases dx with
  | int i =>
    cases dy with
    | int j => cases e; exact .inl ⟨i, j, rx, ry, q _ G H (.refl s) rfl⟩
    | _ => cases e
  | str a =>
    cases dy with
    | str b =>
      simp only [gAdd] at e
      split at e
      · rename_i h; cases e; exact .inr (.inl ⟨a, b, rx, ry, by rw [sizeLine_eq]; exact h, q _ G H (.refl s) rfl⟩)
      · cases e
    | _ => cases e
  | lst xs =>
    cases dy with
    | lst ys =>
      simp only [gAdd] at e
      split at e
      · rename_i h
        cases e
        obtain ⟨a, vs, rfl, h2, h3⟩ := rx
        obtain ⟨b, ws, rfl, h5, h6⟩ := ry
        refine .inr (.inr (.inl ⟨a, b, vs, ws, rfl, rfl, s _ _ h2, s _ _ h5, by rw [sizeLine_eq, ← h3.length, ← h6.length]; exact h, fun p hp => ?_⟩))
        exact q _ _ _ (.new s hp) ⟨p, _, rfl, upd_same, (h3.append h6).mono (upd_sub s hp)⟩
      · cases e
    | _ => cases e
  | tup xs =>
    cases dy with
    | tup ys =>
      simp only [gAdd] at e
      split at e
      · rename_i h
        cases e
        obtain ⟨a, vs, rfl, h2, h3⟩ := rx
        obtain ⟨b, ws, rfl, h5, h6⟩ := ry
        refine .inr (.inr (.inr ⟨a, b, vs, ws, rfl, rfl, (s.tpA h2).sq, (s.tpA h5).sq, by rw [sizeLine_eq, ← h3.length, ← h6.length]; exact h, fun z => ?_, fun z1 z2 => ?_, fun p o hp ho => ?_⟩))
        · subst z
          have e : xs = [] := List.length_eq_zero_iff.mp h3.length
          subst e
          exact q _ G H (.refl s) ⟨b, ws, rfl, h5, h6⟩
        · subst z2
          have e : ys = [] := List.length_eq_zero_iff.mp h6.length
          subst e
          exact q _ G H (.refl s) ⟨a, vs, rfl, h2, by rw [List.append_nil]; exact h3⟩
        · exact q _ _ _ (.new s hp) ⟨p, _, rfl, .inl ⟨o, upd_same, ho⟩, (h3.append h6).mono (upd_sub s hp)⟩
      · cases e
    | _ => cases e
  | _ => cases e
theorem Reps.rep {R : RC} {G : Hp} {xs : List D} {vs : List V} (h : Reps R G xs vs) : ∀ n, Reps R G (List.replicate n xs).flatten (List.replicate n vs).flatten
  | 0 => rfl
  | n + 1 => by
    rw [List.replicate_succ, List.replicate_succ, List.flatten_cons, List.flatten_cons]
    exact h.append (Reps.rep h n)
def rMulU : R2 := fun x y H Q => rI CMul (fun i j => .int (i * j)) x y H Q ∨ rRep x y H Q
theorem op_mulU : OpR X (binaryOp .Mult) rMulU := op_mul.or op_rep
theorem od_mul : OpD (rc X) rMulU gMul := by
  intro G H x y dx dy d Q s rx ry e q
  cases dx with
  | int i =>
    cases dy with
    | int j =>
      simp only [gMul] at e
      split at e
      · rename_i h
        cases e
        refine .inl ⟨i, j, rx, ry, ?_, q _ G H (.refl s) rfl⟩
        unfold CMul
        omega
      · cases e
    | _ => cases e
  | lst xs =>
    cases dy with
    | int k =>
      simp only [gMul] at e
      split at e
      · rename_i h
        cases e
        obtain ⟨a, vs, rfl, h2, h3⟩ := rx
        refine .inr ⟨a, k, vs, rfl, ry, s _ _ h2, by omega, by omega, by rw [sizeLine_eq, ← h3.length]; exact h.2.2, fun p hp => ?_⟩
        exact q _ _ _ (.new s hp) ⟨p, _, rfl, upd_same, (h3.rep _).mono (upd_sub s hp)⟩
      · cases e
    | _ => cases e
  | _ => cases e
theorem od_eq : OpD (rc X) (rEqD X.K) gEq := by
  intro G H x y dx dy d Q s rx ry e q
  unfold gEq eqD at e
  cases q1 : toP dx with
  | none => rw [q1] at e; cases e
  | some p =>
    cases q2 : toP dy with
    | none => rw [q1, q2] at e; cases e
    | some p' =>
      rw [q1, q2] at e
      dsimp only at e
      split at e
      · rename_i h
        cases e
        obtain ⟨h1, h2⟩ := Bool.and_eq_true_iff.mp h
        exact ⟨p, p', dp_of s rx q1, dp_of s ry q2, h1, h2, q _ G H (.refl s) rfl⟩
      · cases e
theorem od_ne : OpD (rc X) (rNeD X.K) gNe := by
  intro G H x y dx dy d Q s rx ry e q
  unfold gNe eqD at e
  cases q1 : toP dx with
  | none => rw [q1] at e; cases e
  | some p =>
    cases q2 : toP dy with
    | none => rw [q1, q2] at e; cases e
    | some p' =>
      rw [q1, q2] at e
      dsimp only at e
      split at e
      · rename_i h
        cases e
        obtain ⟨h1, h2⟩ := Bool.and_eq_true_iff.mp h
        exact ⟨p, p', dp_of s rx q1, dp_of s ry q2, h1, h2, q _ G H (.refl s) rfl⟩
      · cases e
def isNonD : D → Bool
  | .non => true
  | _ => false
theorem Rep.non_iff {R : RC} {G : Hp} {d : D} {v : V} (h : Rep R G d v) : decide (v = .non) = isNonD d := by
  cases d with
  | non => rw [show v = .non from h]; rfl
  | bl b => rw [show v = .bl b from h]; rfl
  | int b => rw [show v = .int b from h]; rfl
  | str b => rw [show v = .str b from h]; rfl
  | ty b => rw [show v = .ty b from h]; rfl
  | gl b => obtain ⟨a, _, h⟩ := h; rw [h]; rfl
  | tup b => obtain ⟨a, _, h, _⟩ := h; rw [h]; rfl
  | lst b => obtain ⟨a, _, h, _⟩ := h; rw [h]; rfl
  | ins c n f => obtain ⟨a, _, _, _, h, _⟩ := h; rw [h]; rfl
  | scr b => obtain ⟨a, h, _⟩ := h; rw [h]; rfl
  | exc c f b => obtain ⟨a, _, _, _, h, _⟩ := h; rw [h]; rfl
  | pr x y => obtain ⟨a, _, _, h, _⟩ := h; rw [h]; rfl
theorem od_isN : OpD (rc X) (fun x y H Q => y = .non ∧ Q (.bl (decide (x = .non))) H) gIsN := by
  intro G H x y dx dy d Q s rx ry e q
  have h := rx.non_iff
  cases dy with
  | non =>
    refine ⟨ry, q _ G H (.refl s) ?_⟩
    rw [h]
    cases dx <;> (cases e; rfl)
  | _ => cases dx <;> cases e
theorem od_notN : OpD (rc X) (fun x y H Q => y = .non ∧ Q (.bl (!decide (x = .non))) H) gNotN := by
  intro G H x y dx dy d Q s rx ry e q
  have h := rx.non_iff
  cases dy with
  | non =>
    refine ⟨ry, q _ G H (.refl s) ?_⟩
    rw [h]
    cases dx <;> (cases e; rfl)
  | _ => cases dx <;> cases e
theorem od_ix : OpD (rc X) (rIx X.K) gIx := by
  intro G H x y dx dy d Q s rx ry e q
  cases dy with
  | int i =>
    cases dx with
    | lst xs =>
      obtain ⟨a, vs, rfl, h2, h3⟩ := rx
      obtain ⟨v, e1, e2⟩ := h3.atI e
      exact .inl ⟨a, vs, i, v, rfl, ry, SqL.of (s _ _ h2), e1, q _ G H (.refl s) e2⟩
    | tup xs =>
      obtain ⟨a, vs, rfl, h2, h3⟩ := rx
      obtain ⟨v, e1, e2⟩ := h3.atI e
      exact .inr (.inl ⟨a, vs, i, v, rfl, ry, (s.tpA h2).sq, e1, q _ G H (.refl s) e2⟩)
    | scr ns =>
      obtain ⟨a, rfl, h2⟩ := rx
      obtain ⟨n, e1, e2⟩ := Option.map_eq_some_iff.mp (show (atI ns i).map D.int = some d from e)
      subst e2
      exact .inl ⟨a, _, i, .int n, rfl, ry, s.sqL h2, by rw [atI_map, e1]; rfl, q _ G H (.refl s) rfl⟩
    | str z =>
      simp only [gIx] at e
      split at e
      · rename_i h
        obtain ⟨c, e1, e2⟩ := Option.map_eq_some_iff.mp e
        subst e2
        exact .inr (.inr ⟨z, i, c, rx, ry, by rw [sizeLine_eq]; exact h, e1, q _ G H (.refl s) rfl⟩)
      · cases e
    | _ => cases e
  | _ => cases dx <;> cases e
end

section
variable {X : Cx} {W : WX} {a b c : Expr} {Fa Fb Fc : M D} {pos : Pos}
theorem de_add (ha : DE X W a Fa) (hb : DE X W b Fb) : DE X W (.BinOp a .Add b pos) (bin2 gAdd Fa Fb) := de_bin op_addU od_add ha hb
theorem de_sub (ha : DE X W a Fa) (hb : DE X W b Fb) : DE X W (.BinOp a .Sub b pos) (bin2 gSub Fa Fb) := de_bin op_sub od_sub ha hb
theorem de_mul (ha : DE X W a Fa) (hb : DE X W b Fb) : DE X W (.BinOp a .Mult b pos) (bin2 gMul Fa Fb) := de_bin op_mulU od_mul ha hb
theorem de_div (ha : DE X W a Fa) (hb : DE X W b Fb) : DE X W (.BinOp a .FloorDiv b pos) (bin2 gDiv Fa Fb) := de_bin op_fdiv od_div ha hb
theorem de_mod (ha : DE X W a Fa) (hb : DE X W b Fb) : DE X W (.BinOp a .Mod b pos) (bin2 gMod Fa Fb) := de_bin op_mod od_mod ha hb
theorem de_pow (ha : DE X W a Fa) (hb : DE X W b Fb) : DE X W (.BinOp a .Pow b pos) (bin2 gPow Fa Fb) := de_bin op_pow od_pow ha hb
theorem de_ix (ha : DE X W a Fa) (hb : DE X W b Fb) (hs : PlainIx b) : DE X W (.Subscript a b pos) (bin2 gIx Fa Fb) := PE.imp (pe_ix ix_seq ha hb hs) fun σ H Q h => tM_op od_ix h
/-- the comparisons by their operators -/
inductive CmpD (X : Cx) : CmpOp → (D → D → Option D) → Prop where
  | mk {op : CmpOp} {g : D → D → Option D} (r : R2) (ho : OpR X (compareOp op) r) (hg : OpD (rc X) r g) : CmpD X op g
theorem cm_lt : CmpD X .Lt gLt := ⟨_, op_lt, od_cmp⟩
theorem cm_le : CmpD X .LtE gLe := ⟨_, op_le, od_cmp⟩
theorem cm_gt : CmpD X .Gt gGt := ⟨_, op_gt, od_cmp⟩
theorem cm_ge : CmpD X .GtE gGe := ⟨_, op_ge, od_cmp⟩
theorem cm_isN : CmpD X .Is gIsN := ⟨_, op_isN, od_isN⟩
theorem cm_notN : CmpD X .IsNot gNotN := ⟨_, op_notN, od_notN⟩
theorem cm_eq (hu : X.A.units + 64 < cLine) : CmpD X .Eq gEq := ⟨_, op_eqD hu, od_eq⟩
theorem cm_ne (hu : X.A.units + 64 < cLine) : CmpD X .NotEq gNe := ⟨_, op_neD hu, od_ne⟩
theorem de_cm {op : CmpOp} {g : D → D → Option D} (h : CmpD X op g) (ha : DE X W a Fa) (hb : DE X W b Fb) (hm : behindInMarks op b = false) : DE X W (.Compare a [op] [b] pos) (bin2 g Fa Fb) := by
  obtain ⟨r, ho, hg⟩ := h
  exact de_cmp ho hg ha hb hm
theorem dt_cm {op : CmpOp} {g : D → D → Option D} (h : CmpD X op g) (ha : DE X W a Fa) (hb : DE X W b Fb) (hm : behindInMarks op b = false) : DT X W (.Compare a [op] [b] pos) (asB (bin2 g Fa Fb)) := by
  obtain ⟨r, ho, hg⟩ := h
  exact dt_cmp ho hg ha hb hm
end
end DL

namespace DL
open PySem PySem.Spec PyProof.Rows L2
variable [LT]

section
variable {α β γ δ : Type} {R : RC} {W : WX}
theorem At.imp {P : Hp → α → β → Prop} {m : Out α} {G H : Hp} {f : List Addr} {σ : L2.St} {Q Q' : β → Hp → Prop} (z : At R W P m G H f σ Q) (w : ∀ v H', Q v H' → Q' v H') : At R W P m G H f σ Q' := by
  cases m with
  | ok a e => exact fun b G' H' f' s e' p => w _ _ (z b G' H' f' s e' p)
  | ex x e => exact z
  | no => exact z
theorem tM_then {P1 : Hp → α → β → Prop} {P2 : Hp → γ → δ → Prop} {F : M α} {k : α → M γ} {σ : L2.St} {H : Hp} {Q : δ → Hp → Prop} {Q' : β → Hp → Prop} (h : tM R W P2 (bnd F k) σ H Q)
    (w : ∀ G1 env1 f1 a b H1, EnvOk R G1 H1 env1 σ f1 → P1 G1 a b → At R W P2 (k a env1) G1 H1 f1 σ Q → Q' b H1) : tM R W P1 F σ H Q' := by
  obtain ⟨G, env, f, e, q⟩ := tM_bind (P1 := P1) h
  exact ⟨G, env, f, e, q.imp fun v H' ⟨G1, env1, f1, a, e1, p1, q1⟩ => w _ _ _ _ _ _ e1 p1 q1⟩
theorem At.then {P1 : Hp → α → β → Prop} {P2 : Hp → γ → δ → Prop} {F : M α} {k : α → M γ} {σ : L2.St} {G H : Hp} {env : List EV} {f : List Addr} {Q : δ → Hp → Prop} {Q' : β → Hp → Prop} (e : EnvOk R G H env σ f) (h : At R W P2 (bnd F k env) G H f σ Q)
    (w : ∀ G1 env1 f1 a b H1, Sub G G1 → EnvOk R G1 H1 env1 σ f1 → P1 G1 a b → At R W P2 (k a env1) G1 H1 f1 σ Q → Q' b H1) : tM R W P1 F σ H Q' := by
  obtain ⟨G, env, f, e, q⟩ := tM_bind2 (P1 := P1) (J := fun G' => Sub G G') (fun G' s => s) e h
  exact ⟨G, env, f, e, q.imp fun v H' ⟨G1, env1, f1, a, e1, p1, j1, q1⟩ => w _ _ _ _ _ _ j1 e1 p1 q1⟩
theorem At.done {P : Hp → α → β → Prop} {a : α} {b : β} {G H : Hp} {env : List EV} {f : List Addr} {σ : L2.St} {Q : β → Hp → Prop} (e : EnvOk R G H env σ f) (h : At R W P (.ok a env) G H f σ Q) (p : P G a b) : Q b H := h b G H f (.refl _ _ _) e p
end
section
variable {X : Cx} {W : WX} {a b c : Expr} {Fa Fb Fc : M D} {pos : Pos} {rest : List Expr}
/-! ### not, and, or as values -/
def gNot : D → Option D
  | .bl b => some (.bl (!b))
  | _ => none
def un1 (g : D → Option D) (Fa : M D) : M D := bnd Fa fun x => ofO (g x)
theorem de_not (ha : DE X W a Fa) : DE X W (.UnaryOp .Not a pos) (un1 gNot Fa) := PE.imp (pe_not ha) fun σ H Q h => by
  refine tM_then (P1 := Rep (rc X)) h fun G1 env1 f1 d v H1 e p q => ?_
  obtain ⟨d', hd, q⟩ := q.fin e
  cases d with
  | bl b => cases p; cases hd; exact ⟨b, rfl, q _ G1 H1 (.refl e.sub) rfl⟩
  | _ => cases hd
def gNeg : D → Option D
  | .int i => some (.int (-i))
  | _ => none
theorem de_neg (ha : DE X W a Fa) : DE X W (.UnaryOp .USub a pos) (un1 gNeg Fa) := PE.imp (pe_un un_neg ha) fun σ H Q h => by
  refine tM_then (P1 := Rep (rc X)) h fun G1 env1 f1 d v H1 e p q => ?_
  obtain ⟨d', hd, q⟩ := q.fin e
  cases d with
  | int b => cases p; cases hd; exact ⟨b, rfl, q _ G1 H1 (.refl e.sub) rfl⟩
  | _ => cases hd
def andV (Fa Fb : M D) : M D := bnd Fa fun x e => match x with
  | .bl true => Fb e
  | .bl false => .ok (.bl false) e
  | _ => .no
def orV (Fa Fb : M D) : M D := bnd Fa fun x e => match x with
  | .bl true => .ok (.bl true) e
  | .bl false => Fb e
  | _ => .no
theorem de_one {op} (ha : DE X W a Fa) : DE X W (.BoolOp op [a] pos) Fa := pe_one ha
theorem de_and (ha : DE X W a Fa) (hb : DE X W (.BoolOp .And (b :: rest) pos) Fb) : DE X W (.BoolOp .And (a :: b :: rest) pos) (andV Fa Fb) := PE.imp (pe_and ha hb) fun σ H Q h => by
  refine tM_then (P1 := Rep (rc X)) h fun G1 env1 f1 d v H1 e p q => ?_
  cases d with
  | bl b =>
    cases p
    refine ⟨b, rfl, ?_⟩
    cases b with
    | true => exact iteT ⟨G1, env1, f1, e, q⟩
    | false => exact iteF (q.done e rfl)
  | _ => exact q.elim
theorem de_or (ha : DE X W a Fa) (hb : DE X W (.BoolOp .Or (b :: rest) pos) Fb) : DE X W (.BoolOp .Or (a :: b :: rest) pos) (orV Fa Fb) := PE.imp (pe_or ha hb) fun σ H Q h => by
  refine tM_then (P1 := Rep (rc X)) h fun G1 env1 f1 d v H1 e p q => ?_
  cases d with
  | bl b =>
    cases p
    refine ⟨b, rfl, ?_⟩
    cases b with
    | true => exact iteT (q.done e rfl)
    | false => exact iteF ⟨G1, env1, f1, e, q⟩
  | _ => exact q.elim
/-! ### as tests -/
variable {Ta Tb Tc : M Bool}
def andT (Ta Tb : M Bool) : M Bool := bnd Ta fun x e => if x then Tb e else .ok false e
def orT (Ta Tb : M Bool) : M Bool := bnd Ta fun x e => if x then .ok true e else Tb e
def notT (Ta : M Bool) : M Bool := bnd Ta fun x e => .ok (!x) e
def DW (X : Cx) (W : WX) (e : Expr) (F : M Bool) : Prop := PW X e (tM (rc X) W PB F)
theorem DW.t {F : M Bool} (h : DW X W a F) : DT X W a F := PW.pt h
theorem dw_and1 (ha : DT X W a Ta) : DW X W (.BoolOp .And [a] pos) Ta := pw_and1 ha
theorem dw_or1 (ha : DT X W a Ta) : DW X W (.BoolOp .Or [a] pos) Ta := pw_or1 ha
theorem dw_and (ha : DT X W a Ta) (hb : DW X W (.BoolOp .And (b :: rest) pos) Tb) : DW X W (.BoolOp .And (a :: b :: rest) pos) (andT Ta Tb) := PW.imp (pw_and ha hb) fun σ H Q h => by
  refine tM_then (P1 := PB) h fun G1 env1 f1 d v H1 e p q => ?_
  cases p
  cases d with
  | true => exact iteT ⟨G1, env1, f1, e, q⟩
  | false => exact iteF (q.done e rfl)
theorem dw_or (ha : DT X W a Ta) (hb : DW X W (.BoolOp .Or (b :: rest) pos) Tb) : DW X W (.BoolOp .Or (a :: b :: rest) pos) (orT Ta Tb) := PW.imp (pw_or ha hb) fun σ H Q h => by
  refine tM_then (P1 := PB) h fun G1 env1 f1 d v H1 e p q => ?_
  cases p
  cases d with
  | true => exact iteT (q.done e rfl)
  | false => exact iteF ⟨G1, env1, f1, e, q⟩
theorem dt_not (ha : DT X W a Ta) : DT X W (.UnaryOp .Not a pos) (notT Ta) := PT.imp (pt_not ha) fun σ H Q h => by
  refine tM_then (P1 := PB) h fun G1 env1 f1 d v H1 e p q => ?_
  cases p
  exact q.done e rfl
def ifE (Tc : M Bool) (Fa Fb : M D) : M D := bnd Tc fun x => if x then Fa else Fb
theorem de_if (hc : DT X W c Tc) (ha : DE X W a Fa) (hb : DE X W b Fb) : DE X W (.IfExp c a b pos) (ifE Tc Fa Fb) := PE.imp (pe_ifExp hc ha hb) fun σ H Q h => by
  refine tM_then (P1 := PB) h fun G1 env1 f1 d v H1 e p q => ?_
  cases p
  cases d with
  | true => exact iteT ⟨G1, env1, f1, e, q⟩
  | false => exact iteF ⟨G1, env1, f1, e, q⟩
/-! ### a < b < c -/
def chain (g g' : D → D → Option D) (Fa Fb Fc : M D) : M D := bnd Fa fun x => bnd Fb fun y => bnd (ofO (g x y)) fun k => match k with
  | .bl true => bnd Fc fun z => ofO (g' y z)
  | .bl false => cst (.bl false)
  | _ => fun _ => .no
/-! ### displays -/
theorem da_nil : DAs X W [] (fun e => .ok [] e) := PA.imp pa_nil fun σ H Q ⟨G, env, f, e, q⟩ => q.done e rfl
def consM (Fa : M D) (Fs : M (List D)) : M (List D) := bnd Fa fun x => bnd Fs fun xs e => .ok (x :: xs) e
theorem da_cons {es : List Expr} {Fs : M (List D)} (ha : DE X W a Fa) (hr : DAs X W es Fs) (hs : starEach (a :: es) X.env = (false, eval a X.env) :: starEach es X.env := by rfl) : DAs X W (a :: es) (consM Fa Fs) :=
  PA.imp (pa_cons ha hr hs) fun σ H Q h => by
    refine tM_then (P1 := Rep (rc X)) h fun G1 env1 f1 d v H1 e p q => ?_
    refine At.then (P1 := Reps (rc X)) e q fun G2 env2 f2 ds vs H2 s e2 p2 q2 => ?_
    exact q2.done e2 ⟨v, vs, rfl, p.mono s, p2⟩
def gTup (ds : List D) : Option D := if ds.length ≤ 16777216 then some (.tup ds) else none
def gLst (ds : List D) : Option D := if ds.length ≤ 16777216 then some (.lst ds) else none
def onL (g : List D → Option D) (Fs : M (List D)) : M D := bnd Fs fun ds => ofO (g ds)
theorem de_tup {es : List Expr} {k : Nat} {Fs : M (List D)} (h : DAs X W es Fs) : DE X W (.Tuple es k pos) (onL gTup Fs) := PE.imp (pe_tupZ h) fun σ H Q h => by
  refine tM_then (P1 := Reps (rc X)) h fun G1 env1 f1 ds vs H1 e p q => ?_
  obtain ⟨d, hd, q⟩ := q.fin e
  unfold gTup at hd
  split at hd
  · rename_i hz
    cases hd
    exact ⟨by rw [sizeLine_eq, ← p.length]; exact hz, fun a o ha ho => q _ _ _ (.new e.sub ha) ⟨a, vs, rfl, .inl ⟨o, upd_same, ho⟩, p.mono (upd_sub e.sub ha)⟩⟩
  · cases hd
theorem de_lst {es : List Expr} {Fs : M (List D)} (h : DAs X W es Fs) : DE X W (.List es pos) (onL gLst Fs) := PE.imp (pe_lst h) fun σ H Q h => by
  refine tM_then (P1 := Reps (rc X)) h fun G1 env1 f1 ds vs H1 e p q => ?_
  obtain ⟨d, hd, q⟩ := q.fin e
  unfold gLst at hd
  split at hd
  · rename_i hz
    cases hd
    exact ⟨by rw [sizeLine_eq, ← p.length]; exact hz, fun a ha => q _ _ _ (.new e.sub ha) ⟨a, vs, rfl, upd_same, p.mono (upd_sub e.sub ha)⟩⟩
  · cases hd
/-! ### built-ins by their values -/
def CallD (R : RC) (r : List V → Hp → VK → Prop) (g : List D → Option D) : Prop := ∀ (G H : Hp) (vs : List V) (ds : List D) (d : D) (Q : VK), Sub G H → Reps R G ds vs → g ds = some d →
  (∀ v G' H', Alo G H G' H' → Rep R G' d v → Q v H') → r vs H Q
theorem tM_cb {r : List V → Hp → VK → Prop} {g : List D → Option D} {R : RC} (hg : CallD R r g) {Fs : M (List D)} {σ : L2.St} {H : Hp} {Q : VK} (h : tM R W (Rep R) (onL g Fs) σ H Q) : tCB r (tM R W (Reps R) Fs) σ H Q := by
  refine tM_then (P1 := Reps R) h fun G1 env1 f1 ds vs H1 e p q => ?_
  obtain ⟨d, hd, q⟩ := q.fin e
  exact hg G1 H1 vs ds d Q e.sub p hd q
theorem de_callB {id : String} {x : Str} {p : Pos} {e : Expr} {es : List Expr} {r : List V → Hp → VK → Prop} {g : List D → Option D} {Fs : M (List D)} (hc : CallR X (.builtin id) r) (hd : CallD (rc X) r g) (hg : Gl X x) (hm : X.mg x = none)
    (hv : bootBuiltins x = some (.builtin id)) (ha : DAs X W (e :: es) Fs) (hn : x ≠ "__name__" := by decide) (hdb : (x == ("__debug__" : Str)) = false := by decide)
    (he : starEach (e :: es) X.env = (false, eval e X.env) :: starEach es X.env := by rfl) (hpl : (backTo pos (starEach es X.env)).any (·.1) = false := by rfl) : DE X W (.Call (.Name x p) (e :: es) [] pos) (onL g Fs) :=
  PE.imp (pe_callB hc hg hm hv ha hn hdb he hpl) fun σ H Q h => tM_cb hd h
theorem de_callT {T : String} {x : Str} {p : Pos} {e : Expr} {es : List Expr} {r : List V → Hp → VK → Prop} {g : List D → Option D} {Fs : M (List D)} (hc : CallR X (.type T) r) (hd : CallD (rc X) r g) (hg : Gl X x) (hm : X.mg x = none)
    (hv : bootBuiltins x = some (.type T)) (ha : DAs X W (e :: es) Fs) (hn : x ≠ "__name__" := by decide) (hdb : (x == ("__debug__" : Str)) = false := by decide)
    (he : starEach (e :: es) X.env = (false, eval e X.env) :: starEach es X.env := by rfl) (hpl : (backTo pos (starEach es X.env)).any (·.1) = false := by rfl) : DE X W (.Call (.Name x p) (e :: es) [] pos) (onL g Fs) :=
  PE.imp (pe_callTy hc hg hm hv ha hn hdb he hpl) fun σ H Q h => tM_cb hd h
end
end DL

namespace DL
open PySem PySem.Spec PyProof.Rows L2
variable [LT]

theorem Reps.one' {R : RC} {G : Hp} {d : D} {vs : List V} (h : Reps R G [d] vs) : ∃ v, vs = [v] ∧ Rep R G d v := by
  obtain ⟨v, r, h1, h2, h3⟩ := h
  exact ⟨v, by rw [h1, show r = [] from h3], h2⟩
theorem Reps.two' {R : RC} {G : Hp} {d d' : D} {vs : List V} (h : Reps R G [d, d'] vs) : ∃ v v', vs = [v, v'] ∧ Rep R G d v ∧ Rep R G d' v' := by
  obtain ⟨v, r, h1, h2, h3⟩ := h
  obtain ⟨v', h4, h5⟩ := Reps.one' h3
  exact ⟨v, v', by rw [h1, h4], h2, h5⟩
/-! ### len -/
def gLen : List D → Option D
  | [.lst xs] => some (.int xs.length)
  | [.tup xs] => some (.int xs.length)
  | [.scr xs] => some (.int xs.length)
  | [.str z] => if z.length ≤ 16777216 then some (.int z.length) else none
  | _ => none
section
variable {X : Cx}
abbrev rLenU (K : PySem.W.Frag) : List V → Hp → VK → Prop := fun xs H Q => ∃ x n, xs = [x] ∧ LenV K x H n ∧ Q (.int n) H
theorem cd_len : CallD (rc X) (rLenU X.K) gLen := by
  intro G H vs ds d Q s r e q
  unfold gLen at e
  split at e
  · cases e
    obtain ⟨v, rfl, a, ws, rfl, h2, h3⟩ := r.one'
    exact ⟨.ref a, ws.length, rfl, .inl ⟨ws, SqL.of (s _ _ h2), rfl⟩, q _ G H (.refl s) (by rw [h3.length]; rfl)⟩
  · cases e
    obtain ⟨v, rfl, a, ws, rfl, h2, h3⟩ := r.one'
    exact ⟨.ref a, ws.length, rfl, .inr ⟨ws, (s.tpA h2).sq, rfl⟩, q _ G H (.refl s) (by rw [h3.length]; rfl)⟩
  · rename_i ns
    cases e
    obtain ⟨v, rfl, a, rfl, h2⟩ := r.one'
    exact ⟨.ref a, ns.length, rfl, .inl ⟨_, s.sqL h2, by rw [List.length_map]⟩, q _ G H (.refl s) rfl⟩
  · split at e
    · rename_i z hz
      cases e
      obtain ⟨v, rfl, h⟩ := r.one'
      rw [show v = .str z from h]
      exact ⟨.str z, z.length, rfl, ⟨by rw [sizeLine_eq]; exact hz, rfl⟩, q _ G H (.refl s) rfl⟩
    · cases e
  · cases e
/-! ### isinstance of built-in types -/
def tyN : D → Option String
  | .non => some "NoneType"
  | .bl _ => some "bool"
  | .int _ => some "int"
  | .str _ => some "str"
  | .tup _ => some "tuple"
  | .lst _ => some "list"
  | .scr _ => some "list"
  | _ => none
def isTy (t n : String) : Option Bool :=
  if ["int", "bool", "str", "list", "tuple"].contains n && ["NoneType", "int", "bool", "str", "list", "tuple"].contains t then some (t == n || (t == "bool" && n == "int")) else none
theorem isTy_tab : ∀ n ∈ ["int", "bool", "str", "list", "tuple"], ∀ t ∈ ["NoneType", "int", "bool", "str", "list", "tuple"], kitB t n = some (t == n || (t == "bool" && n == "int")) := by decide +kernel
theorem isTy_kit (t n : String) (b : Bool) (h : isTy t n = some b) : kitB t n = some b := by
  unfold isTy at h
  split at h
  · rename_i hc
    obtain ⟨h1, h2⟩ := Bool.and_eq_true_iff.mp hc
    rw [isTy_tab n (List.contains_iff_mem.mp h1) t (List.contains_iff_mem.mp h2)]
    exact h
  · cases h
theorem tyX_of {G H : Hp} (s : Sub G H) {d : D} {v : V} {t : String} (r : Rep (rc X) G d v) (h : tyN d = some t) : TyX X.K H v (.type t) := by
  cases d with
  | non => cases h; rw [show v = .non from r]; exact .base .non
  | bl b => cases h; rw [show v = .bl b from r]; exact .base (.bl b)
  | int b => cases h; rw [show v = .int b from r]; exact .base (.int b)
  | str b => cases h; rw [show v = .str b from r]; exact .base (.str b)
  | tup xs =>
    cases h
    obtain ⟨a, vs, rfl, h2, h3⟩ := r
    rcases h2 with ⟨o, h2, _⟩ | ⟨us, n, sl, h2, _⟩
    · exact .fTuple (s _ _ h2)
    · exact .kTuple h2 rfl
  | lst xs =>
    cases h
    obtain ⟨a, vs, rfl, h2, h3⟩ := r
    exact .base (.lst (s _ _ h2))
  | scr ns =>
    cases h
    obtain ⟨a, rfl, h2⟩ := r
    rcases h2 with (h2 | ⟨o, h2⟩) | ⟨o, its, n, h2, h3, _⟩
    · exact .base (.lst (s _ _ h2))
    · exact .base (.frz (s _ _ h2))
    · exact .kList h2 h3
  | _ => cases h
def isTys (t : String) : List D → Option Bool
  | [] => some false
  | c :: r => match c with
    | .ty n => (isTy t n).bind fun b => (isTys t r).map fun b' => b || b'
    | _ => none
def gIsi : List D → Option D
  | [d, .ty n] => (tyN d).bind fun t => (isTy t n).map .bl
  | [d, .tup cs] => (tyN d).bind fun t => (isTys t cs).map .bl
  | _ => none
theorem kit_all {K : PySem.W.Frag} {t : String} {R : RC} {G : Hp} : ∀ (cs : List D) (vs : List V) (b : Bool), Reps R G cs vs → isTys t cs = some b → (∃ us, Paired ClsV vs us ∧ PySem.W.kitAny K (.type t) us = some b)
  | [], vs, b, h, e => by
    cases e
    rw [show vs = [] from h]
    exact ⟨[], .nil, rfl⟩
  | c :: cs, vs, b, h, e => by
    obtain ⟨v, r, h1, h2, h3⟩ := h
    subst h1
    cases c with
    | ty n =>
      have h2 : v = .ty n := h2
      subst h2
      obtain ⟨k, q, e⟩ := Option.bind_eq_some_iff.mp (show (isTy t n).bind (fun b => (isTys t cs).map fun b' => b || b') = some b from e)
      obtain ⟨k2, q2, e⟩ := Option.map_eq_some_iff.mp e
      have k1 : PySem.W.kitOne K (.type t) (.type n) = some k := kit_ty (isTy_kit t n k q)
      obtain ⟨us, p, e2⟩ := kit_all (K := K) cs r k2 h3 q2
      refine ⟨.type n :: us, .cons (.ty n) p, kitAny_cons k1 (fun z => ?_) (fun z => ?_)⟩
      · rw [e2, ← e, z]; rfl
      · rw [← e, z]; rfl
    | _ => cases e
/-- isinstance(x, (c1, c2, ..)) -/
def rIsiZ (K : PySem.W.Frag) : List V → Hp → VK → Prop := fun xs H Q => ∃ (x : V) (a : Addr) (o : Obj) (cs : List V) (c : Value) (us : List Value) (b : Bool), xs = [x, .ref a] ∧ H a = some (.frz o (.tup cs)) ∧ Paired ClsV cs us ∧ TyX K H x c ∧ PySem.W.kitAny K c us = some b ∧ Q (.bl b) H
theorem call_isiZ : CallR X (.builtin "isinstance") (rIsiZ X.K) := by
  intro pins s σ H xs us Q I r ⟨x, a, o, cs, c, ws, b, ex, hT, k, ty, e, q⟩
  subst ex
  obtain ⟨u1, u2, eu, r1, r2⟩ := vals2 r
  subst eu
  have e2 : u2 = Value.ref a := r2
  subst e2
  obtain ⟨P, Z, p, hx⟩ := kit_of I r1 ty
  obtain ⟨hs, _, its, rv, o2, h1, h2, n, h3⟩ := (show ObjOk X.prog X.w H s.heap a (.frz o (.tup cs)) from I.hok a _ hT)
  rw [hs] at h1
  cases h1
  have e3 := ClsV.all k rv
  obtain ⟨oc, od, dt, sl⟩ := o
  simp only at h2 h3
  subst e3 h2 h3
  exact PySem.W.kia_tup Z I.kIn p hs e hx fun tk => ⟨.bl b, H, I.tok tk, rfl, q⟩
def rIsiU (K : PySem.W.Frag) : List V → Hp → VK → Prop := fun xs H Q => rIsi K xs H Q ∨ (rIsiZ K xs H Q ∨ rIsiK K xs H Q)
theorem CallR.or {f : Value} {r r' : List V → Hp → VK → Prop} (h : CallR X f r) (h' : CallR X f r') : CallR X f (fun xs H Q => r xs H Q ∨ r' xs H Q) := by
  intro pins s σ H xs us Q I rx q
  rcases q with q | q
  · exact h pins s σ H xs us Q I rx q
  · exact h' pins s σ H xs us Q I rx q
theorem call_isiU : CallR X (.builtin "isinstance") (rIsiU X.K) := CallR.or call_isi (CallR.or call_isiZ call_isiK)
theorem clsV_eq : ∀ {vs : List V} {us ws : List Value}, Paired ClsV vs us → Vals vs ws → ws = us := fun p r => ClsV.all p r
theorem cd_isi : CallD (rc X) (rIsiU X.K) gIsi := by
  intro G H vs ds d Q s r e q
  unfold gIsi at e
  split at e
  · rename_i d0 n
    obtain ⟨v, v', rfl, h1, h2⟩ := r.two'
    obtain ⟨t, ht, e⟩ := Option.bind_eq_some_iff.mp e
    obtain ⟨b, hb, e⟩ := Option.map_eq_some_iff.mp e
    subst e
    rw [show v' = .ty n from h2]
    exact .inl ⟨v, .ty n, .type t, .type n, b, rfl, .ty n, tyX_of s h1 ht, kit_ty (isTy_kit t n b hb), q _ G H (.refl s) rfl⟩
  · rename_i d0 cs
    obtain ⟨v, v', rfl, h1, h2⟩ := r.two'
    obtain ⟨t, ht, e⟩ := Option.bind_eq_some_iff.mp e
    obtain ⟨b, hb, e⟩ := Option.map_eq_some_iff.mp e
    subst e
    obtain ⟨a, ws, rfl, h3, h4⟩ := h2
    obtain ⟨us, p, k⟩ := kit_all (K := X.K) cs ws b h4 hb
    rcases h3 with ⟨o, h3, _⟩ | ⟨us', n, sl, h3, _, h5⟩
    · exact .inr (.inl ⟨v, a, o, ws, .type t, us, b, rfl, s _ _ h3, p, tyX_of s h1 ht, k, q _ G H (.refl s) rfl⟩)
    · have e := clsV_eq p h5
      subst e
      exact .inr (.inr ⟨v, a, none, us', n, sl, .type t, b, rfl, h3, tyX_of s h1 ht, k, q _ G H (.refl s) rfl⟩)
  · cases e
/-! ### tuple(x), list(x) -/
def gTupOf : List D → Option D
  | [.lst xs] => some (.tup xs)
  | [.tup xs] => some (.tup xs)
  | _ => none
def gLstOf : List D → Option D
  | [.lst xs] => some (.lst xs)
  | [.tup xs] => some (.lst xs)
  | _ => none
abbrev rTupOf (K : PySem.W.Frag) : List V → Hp → VK → Prop := fun xs H Q => ∃ p ys, xs = [.ref p] ∧ ((SqL K H p ys ∧ ∀ l, H l = none → Q (.ref l) (upd H l (.tup ys))) ∨ (SqT K H p ys ∧ Q (.ref p) H))
abbrev rLstOf (K : PySem.W.Frag) : List V → Hp → VK → Prop := fun xs H Q => ∃ p ys, xs = [.ref p] ∧ (SqL K H p ys ∨ SqT K H p ys) ∧ ∀ l, H l = none → Q (.ref l) (upd H l (.lst ys))
theorem cd_tupOf : CallD (rc X) (rTupOfZ X.K) gTupOf := by
  intro G H vs ds d Q s r e q
  unfold gTupOf at e
  split at e
  · cases e
    obtain ⟨v, rfl, a, ws, rfl, h2, h3⟩ := r.one'
    exact ⟨a, ws, rfl, .inl ⟨SqL.of (s _ _ h2), fun l o hl ho => q _ _ _ (.new s hl) ⟨l, ws, rfl, .inl ⟨o, upd_same, ho⟩, h3.mono (upd_sub s hl)⟩⟩⟩
  · cases e
    obtain ⟨v, rfl, a, ws, rfl, h2, h3⟩ := r.one'
    exact ⟨a, ws, rfl, .inr ⟨(s.tpA h2).sq, q _ G H (.refl s) ⟨a, ws, rfl, h2, h3⟩⟩⟩
  · cases e
theorem cd_lstOf : CallD (rc X) (rLstOf X.K) gLstOf := by
  intro G H vs ds d Q s r e q
  unfold gLstOf at e
  split at e
  · cases e
    obtain ⟨v, rfl, a, ws, rfl, h2, h3⟩ := r.one'
    exact ⟨a, ws, rfl, .inl (SqL.of (s _ _ h2)), fun l hl => q _ _ _ (.new s hl) ⟨l, ws, rfl, upd_same, h3.mono (upd_sub s hl)⟩⟩
  · cases e
    obtain ⟨v, rfl, a, ws, rfl, h2, h3⟩ := r.one'
    exact ⟨a, ws, rfl, .inr (s.tpA h2).sq, fun l hl => q _ _ _ (.new s hl) ⟨l, ws, rfl, upd_same, h3.mono (upd_sub s hl)⟩⟩
  · cases e
/-! ### numbers -/
def toInts : List D → Option (List Int)
  | [] => some []
  | d :: r => match d with
    | .int i => (toInts r).map (i :: ·)
    | _ => none
theorem reps_ints {R : RC} {G : Hp} : ∀ {xs : List D} {vs : List V} {ns : List Int}, Reps R G xs vs → toInts xs = some ns → vs = ns.map V.int
  | [], vs, ns, h, e => by cases e; exact h
  | d :: xs, vs, ns, h, e => by
    obtain ⟨v, r, h1, h2, h3⟩ := h
    cases d with
    | int i =>
      obtain ⟨ms, e1, e2⟩ := Option.map_eq_some_iff.mp (show (toInts xs).map (i :: ·) = some ns from e)
      subst e2
      rw [h1, show v = .int i from h2, reps_ints h3 e1]; rfl
    | _ => cases e
theorem ints_reps {R : RC} {G : Hp} : ∀ ns : List Int, Reps R G (ns.map D.int) (ns.map V.int)
  | [] => rfl
  | n :: ns => ⟨.int n, ns.map V.int, rfl, rfl, ints_reps ns⟩
def toBls : List D → Option (List Bool)
  | [] => some []
  | d :: r => match d with
    | .bl i => (toBls r).map (i :: ·)
    | _ => none
theorem reps_bls {R : RC} {G : Hp} : ∀ {xs : List D} {vs : List V} {ns : List Bool}, Reps R G xs vs → toBls xs = some ns → vs = ns.map V.bl
  | [], vs, ns, h, e => by cases e; exact h
  | d :: xs, vs, ns, h, e => by
    obtain ⟨v, r, h1, h2, h3⟩ := h
    cases d with
    | bl i =>
      obtain ⟨ms, e1, e2⟩ := Option.map_eq_some_iff.mp (show (toBls xs).map (i :: ·) = some ns from e)
      subst e2
      rw [h1, show v = .bl i from h2, reps_bls h3 e1]; rfl
    | _ => cases e
def gAbs : List D → Option D
  | [.int i] => some (.int (if i < 0 then -i else i))
  | _ => none
theorem cd_abs : CallD (rc X) (fun xs H Q => ∃ i, xs = [.int i] ∧ Q (.int (if i < 0 then -i else i)) H) gAbs := by
  intro G H vs ds d Q s r e q
  unfold gAbs at e
  split at e
  · rename_i i
    cases e
    obtain ⟨v, rfl, h⟩ := r.one'
    exact ⟨i, by rw [show v = .int i from h], q _ G H (.refl s) rfl⟩
  · cases e
def gInt : List D → Option D
  | [.int i] => some (.int i)
  | [.bl b] => some (.int (if b then 1 else 0))
  | _ => none
theorem cd_int : CallD (rc X) (fun xs H Q => (∃ i, xs = [.int i] ∧ Q (.int i) H) ∨ ∃ k, xs = [.bl k] ∧ Q (.int (if k then 1 else 0)) H) gInt := by
  intro G H vs ds d Q s r e q
  unfold gInt at e
  split at e
  · rename_i i
    cases e
    obtain ⟨v, rfl, h⟩ := r.one'
    exact .inl ⟨i, by rw [show v = .int i from h], q _ G H (.refl s) rfl⟩
  · rename_i i
    cases e
    obtain ⟨v, rfl, h⟩ := r.one'
    exact .inr ⟨i, by rw [show v = .bl i from h], q _ G H (.refl s) rfl⟩
  · cases e
def gMax2 : List D → Option D
  | [.int i, .int j] => some (.int (if j > i then j else i))
  | _ => none
def gMin2 : List D → Option D
  | [.int i, .int j] => some (.int (if j < i then j else i))
  | _ => none
theorem cd_max2 : CallD (rc X) (fun xs H Q => ∃ i j, xs = [.int i, .int j] ∧ Q (.int (if j > i then j else i)) H) gMax2 := by
  intro G H vs ds d Q s r e q
  unfold gMax2 at e
  split at e
  · rename_i i j
    cases e
    obtain ⟨v, v', rfl, h1, h2⟩ := r.two'
    exact ⟨i, j, by rw [show v = .int i from h1, show v' = .int j from h2], q _ G H (.refl s) rfl⟩
  · cases e
theorem cd_min2 : CallD (rc X) (fun xs H Q => ∃ i j, xs = [.int i, .int j] ∧ Q (.int (if j < i then j else i)) H) gMin2 := by
  intro G H vs ds d Q s r e q
  unfold gMin2 at e
  split at e
  · rename_i i j
    cases e
    obtain ⟨v, v', rfl, h1, h2⟩ := r.two'
    exact ⟨i, j, by rw [show v = .int i from h1, show v' = .int j from h2], q _ G H (.refl s) rfl⟩
  · cases e
def gSum : List D → Option D
  | [.lst xs] => (toInts xs).map fun ns => .int ns.sum
  | _ => none
theorem cd_sum : CallD (rc X) (rSum X.K) gSum := by
  intro G H vs ds d Q s r e q
  unfold gSum at e
  split at e
  · obtain ⟨ns, e1, e2⟩ := Option.map_eq_some_iff.mp e
    subst e2
    obtain ⟨v, rfl, a, ws, rfl, h2, h3⟩ := r.one'
    exact ⟨a, ns, rfl, by rw [← reps_ints h3 e1]; exact SqL.of (s _ _ h2), q _ G H (.refl s) rfl⟩
  · cases e
def gAll : List D → Option D
  | [.lst xs] => (toBls xs).map fun bs => .bl (bs.all id)
  | _ => none
def gAny : List D → Option D
  | [.lst xs] => (toBls xs).map fun bs => .bl (bs.any id)
  | _ => none
theorem cd_all : CallD (rc X) (rAll X.K) gAll := by
  intro G H vs ds d Q s r e q
  unfold gAll at e
  split at e
  · obtain ⟨ns, e1, e2⟩ := Option.map_eq_some_iff.mp e
    subst e2
    obtain ⟨v, rfl, a, ws, rfl, h2, h3⟩ := r.one'
    exact ⟨a, ns, rfl, by rw [← reps_bls h3 e1]; exact SqL.of (s _ _ h2), q _ G H (.refl s) rfl⟩
  · cases e
theorem cd_any : CallD (rc X) (rAny X.K) gAny := by
  intro G H vs ds d Q s r e q
  unfold gAny at e
  split at e
  · obtain ⟨ns, e1, e2⟩ := Option.map_eq_some_iff.mp e
    subst e2
    obtain ⟨v, rfl, a, ws, rfl, h2, h3⟩ := r.one'
    exact ⟨a, ns, rfl, by rw [← reps_bls h3 e1]; exact SqL.of (s _ _ h2), q _ G H (.refl s) rfl⟩
  · cases e
end
end DL

namespace DL
open PySem PySem.Spec PyProof.Rows L2
variable [LT]

/-- a statement's outcome -/
inductive SO where
  | nx (e : List EV) | rt (r : EV) (e : List EV) | bk (e : List EV) | ct (e : List EV) | ex (x : XV) (e : List EV) | no
abbrev MS := List EV → SO
/-- the slots that must not be stored -/
def Kp (Pr : Nat → Bool) (σ σ' : L2.St) : Prop := σ'.length = σ.length ∧ ∀ i, Pr i = true → σ'[i]? = σ[i]?
theorem Kp.refl {Pr : Nat → Bool} (σ : L2.St) : Kp Pr σ σ := ⟨rfl, fun _ _ => rfl⟩
theorem Kp.trans {Pr : Nat → Bool} {σ σ1 σ2 : L2.St} (a : Kp Pr σ σ1) (b : Kp Pr σ1 σ2) : Kp Pr σ σ2 := ⟨b.1.trans a.1, fun i h => (b.2 i h).trans (a.2 i h)⟩
theorem Kp.set {Pr : Nat → Bool} {σ : L2.St} {i : Nat} {v : Option V} (h : Pr i = false) : Kp Pr σ (σ.set i v) := ⟨List.length_set, fun j hj => by
  have : j ≠ i := fun z => by rw [z, h] at hj; cases hj
  rw [List.getElem?_set_ne (Ne.symm this)]⟩

def AtS (R : RC) (W : WX) (Pr : Nat → Bool) (m : SO) (G H : Hp) (f : List Addr) (σ : L2.St) (D : Ends) : Prop :=
  match m with
  | .nx e => ∀ σ' G' H' f', Stp G H f G' H' f' → EnvOk R G' H' e σ' f' → Kp Pr σ σ' → D.nx σ' H'
  | .bk e => ∀ σ' G' H' f', Stp G H f G' H' f' → EnvOk R G' H' e σ' f' → Kp Pr σ σ' → D.bk σ' H'
  | .ct e => ∀ σ' G' H' f', Stp G H f G' H' f' → EnvOk R G' H' e σ' f' → Kp Pr σ σ' → D.ct σ' H'
  | .rt r e => ∀ v σ' G' H' f', Stp G H f G' H' f' → EnvOk R G' H' (r :: e) (some v :: σ') f' → Kp Pr σ σ' → D.rt v H'
  | .ex x e => ∀ c d σ' G' H' f', Stp G H f G' H' f' → EnvOk R G' H' e σ' f' → Kp Pr σ σ' → ExR R G' x c d → W c d σ' H'
  | .no => False
theorem AtS.step {R : RC} {W : WX} {Pr : Nat → Bool} {m : SO} {G H G1 H1 : Hp} {f f1 : List Addr} {σ σ1 : L2.St} {D : Ends} (h : AtS R W Pr m G H f σ D) (s : Stp G H f G1 H1 f1) (k : Kp Pr σ σ1) : AtS R W Pr m G1 H1 f1 σ1 D := by
  cases m with
  | nx e => exact fun σ' G' H' f' s' e' k' => h σ' G' H' f' (s.trans s') e' (k.trans k')
  | bk e => exact fun σ' G' H' f' s' e' k' => h σ' G' H' f' (s.trans s') e' (k.trans k')
  | ct e => exact fun σ' G' H' f' s' e' k' => h σ' G' H' f' (s.trans s') e' (k.trans k')
  | rt r e => exact fun v σ' G' H' f' s' e' k' => h v σ' G' H' f' (s.trans s') e' (k.trans k')
  | ex x e => exact fun c d σ' G' H' f' s' e' k' => h c d σ' G' H' f' (s.trans s') e' (k.trans k')
  | no => exact h
/-- weaker ends -/
structure Le (D D' : Ends) : Prop where
  nx : ∀ σ H, D.nx σ H → D'.nx σ H
  rt : ∀ v H, D.rt v H → D'.rt v H
  bk : ∀ σ H, D.bk σ H → D'.bk σ H
  ct : ∀ σ H, D.ct σ H → D'.ct σ H
theorem AtS.imp {R : RC} {W : WX} {Pr : Nat → Bool} {m : SO} {G H : Hp} {f : List Addr} {σ : L2.St} {D D' : Ends} (h : AtS R W Pr m G H f σ D) (l : Le D D') : AtS R W Pr m G H f σ D' := by
  cases m with
  | nx e => exact fun σ' G' H' f' s' e' k' => l.nx _ _ (h σ' G' H' f' s' e' k')
  | bk e => exact fun σ' G' H' f' s' e' k' => l.bk _ _ (h σ' G' H' f' s' e' k')
  | ct e => exact fun σ' G' H' f' s' e' k' => l.ct _ _ (h σ' G' H' f' s' e' k')
  | rt r e => exact fun v σ' G' H' f' s' e' k' => l.rt _ _ (h v σ' G' H' f' s' e' k')
  | ex x e => exact h
  | no => exact h
/-- a statement's reading -/
def tS (R : RC) (W : WX) (Pr : Nat → Bool) (F : MS) : TS := fun D σ H => ∃ G env f, EnvOk R G H env σ f ∧ AtS R W Pr (F env) G H f σ D
def DS (X : Cx) (W : WX) (Pr : Nat → Bool) (st : Stmt) (F : MS) : Prop := PS X st (tS (rc X) W Pr F)
def DSs (X : Cx) (W : WX) (Pr : Nat → Bool) (sts : List Stmt) (F : MS) : Prop := PSs X sts (tS (rc X) W Pr F)

def seqS (F1 F2 : MS) : MS := fun e => match F1 e with
  | .nx e1 => F2 e1
  | m => m
/-- an expression first -/
def bndS {α : Type} (m : M α) (k : α → MS) : MS := fun e => match m e with
  | .ok a e1 => k a e1
  | .ex x e1 => .ex x e1
  | .no => .no
section
variable {X : Cx} {W : WX} {Pr : Nat → Bool} {a b c : Expr} {Fa Fb Fc : M D} {pos : Pos} {st : Stmt} {rest body orelse : List Stmt} {F1 F2 : MS}
theorem dss_nil : DSs X W Pr [] .nx := PSs.imp pss_nil fun D σ H ⟨G, env, f, e, q⟩ => q σ G H f (.refl _ _ _) e (.refl σ)
theorem dss_one (h : DS X W Pr st F1) : DSs X W Pr [st] F1 := pss_one h
theorem dss_cons (h1 : DS X W Pr st F1) (h2 : DSs X W Pr rest F2) : DSs X W Pr (st :: rest) (seqS F1 F2) := PSs.imp (pss_cons h1 h2) fun D σ H ⟨G, env, f, e, q⟩ => by
  refine ⟨G, env, f, e, ?_⟩
  unfold seqS at q
  cases z : F1 env with
  | nx e1 => rw [z] at q; exact fun σ' G' H' f' s' e' k' => ⟨G', e1, f', e', q.step s' k'⟩
  | bk e1 => rw [z] at q; exact q
  | ct e1 => rw [z] at q; exact q
  | rt r e1 => rw [z] at q; exact q
  | ex x e1 => rw [z] at q; exact q
  | no => rw [z] at q; exact q
theorem ds_pass : DS X W Pr (.Pass pos) .nx := PS.imp ps_pass fun D σ H ⟨G, env, f, e, q⟩ => q σ G H f (.refl _ _ _) e (.refl σ)
theorem ds_break : DS X W Pr (.Break pos) .bk := PS.imp ps_break fun D σ H ⟨G, env, f, e, q⟩ => q σ G H f (.refl _ _ _) e (.refl σ)
theorem ds_continue : DS X W Pr (.Continue pos) .ct := PS.imp ps_continue fun D σ H ⟨G, env, f, e, q⟩ => q σ G H f (.refl _ _ _) e (.refl σ)
theorem ds_doc {x j pos pos'} : DS X W Pr (.Expr (.Constant (.str x) j pos) pos') .nx := PS.imp ps_doc fun D σ H ⟨G, env, f, e, q⟩ => q σ G H f (.refl _ _ _) e (.refl σ)
/-- from an expression's end on -/
theorem tS_bnd {α β : Type} {P : Hp → α → β → Prop} {F : M α} {k : α → MS} {R : RC} {D : Ends} {σ : L2.St} {H : Hp} {Q : β → Hp → Prop} (h : tS R W Pr (bndS F k) D σ H)
    (w : ∀ G1 env1 f1 a b H1, EnvOk R G1 H1 env1 σ f1 → P G1 a b → AtS R W Pr (k a env1) G1 H1 f1 σ D → Q b H1) : tM R W P F σ H Q := by
  obtain ⟨G, env, f, e, q⟩ := h
  refine ⟨G, env, f, e, ?_⟩
  unfold bndS at q
  cases z : F env with
  | ok a e1 => rw [z] at q; exact fun b G' H' f' s' e' p' => w G' e1 f' a b H' e' p' (q.step s' (.refl σ))
  | ex x e1 => rw [z] at q; exact fun c d G' H' f' s' e' x' => q c d σ G' H' f' s' e' (.refl σ) x'
  | no => rw [z] at q; exact q
def dropS (Fa : M D) : MS := bndS Fa fun _ => .nx
theorem ds_expr (ha : DE X W a Fa) (hs : swapsWith a none pos.line X.env = pure false := by rfl) : DS X W Pr (.Expr a pos) (dropS Fa) := PS.imp (ps_expr ha hs) fun D σ H h =>
  tS_bnd (P := Rep (rc X)) h fun G1 env1 f1 d v H1 e p q => q σ G1 H1 f1 (.refl _ _ _) e (.refl σ)
def retS (Fa : M D) : MS := bndS Fa fun d e => .rt (.v d) e
theorem EnvOk.push {R : RC} {G H : Hp} {env : List EV} {σ : L2.St} {f : List Addr} {d : D} {v : V} (e : EnvOk R G H env σ f) (p : Rep R G d v) : EnvOk R G H (.v d :: env) (some v :: σ) f :=
  ⟨e.sub, ⟨some v, σ, [], f, rfl, rfl, ⟨rfl, v, rfl, p⟩, e.sl⟩, e.nd, e.fr, e.nt, e.tb⟩
theorem ds_ret (ha : DE X W a Fa) : DS X W Pr (.Return (some a) pos) (retS Fa) := PS.imp (ps_ret ha) fun D σ H h =>
  tS_bnd (P := Rep (rc X)) h fun G1 env1 f1 d v H1 e p q => q v σ G1 H1 f1 (.refl _ _ _) (e.push p) (.refl σ)
theorem ds_retN : DS X W Pr (.Return none pos) (fun e => .rt (.v .non) e) := PS.imp ps_retN fun D σ H ⟨G, env, f, e, q⟩ => q .non σ G H f (.refl _ _ _) (e.push rfl) (.refl σ)
def ifS (Tc : M Bool) (F1 F2 : MS) : MS := bndS Tc fun x => if x then F1 else F2
theorem ds_if {Tc : M Bool} (hc : DT X W c Tc) (h1 : DSs X W Pr body F1) (h2 : DSs X W Pr orelse F2) : DS X W Pr (.If c body orelse pos) (ifS Tc F1 F2) := PS.imp (ps_if hc h1 h2) fun D σ H h =>
  tS_bnd (P := PB) h fun G1 env1 f1 d v H1 e p q => by
    cases p
    cases d with
    | true => exact iteT ⟨G1, env1, f1, e, q⟩
    | false => exact iteF ⟨G1, env1, f1, e, q⟩
/-! ### stores of names -/
theorem EnvOk.set {R : RC} {G H : Hp} {env : List EV} {σ : L2.St} {f : List Addr} {d : D} {v : V} {i : Nat} {ev : EV} (e : EnvOk R G H env σ f) (hi : env[i]? = some ev) (p : Rep R G d v) :
    ∃ f', EnvOk R G H (env.set i (.v d)) (σ.set i (some v)) f' ∧ Stp G H f G H f' := by
  obtain ⟨s0, f1, f2, f3, h1, h2, h3, h4⟩ := e.sl.at hi
  subst h2
  have nd := e.nd
  refine ⟨f1 ++ [] ++ f3, ⟨e.sub, h4 G H (.v d) (some v) [] (.refl G) (fun _ _ _ h => h) ⟨rfl, v, rfl, p⟩, ?_, fun a ha => e.fr a ?_, e.nt, e.tb⟩, Stp.less fun a ha => ?_⟩
  · rw [List.append_nil]
    exact nd.sublist (by rw [List.append_assoc]; exact List.Sublist.append (List.Sublist.refl _) (List.sublist_append_right _ _))
  · simp only [List.append_nil, List.mem_append] at ha ⊢
    rcases ha with z | z
    · exact .inl (.inl z)
    · exact .inr z
  · simp only [List.append_nil, List.mem_append] at ha ⊢
    rcases ha with z | z
    · exact .inl (.inl z)
    · exact .inr z
/-- slot i takes plain data -/
def put (i : Nat) (d : D) : List EV → Option (List EV) := fun e => if i < e.length then some (e.set i (.v d)) else none
def setS (i : Nat) (Fa : M D) : MS := bndS Fa fun d e => match put i d e with
  | some e1 => .nx e1
  | none => .no
theorem put_ok {R : RC} {G H : Hp} {env env1 : List EV} {σ : L2.St} {f : List Addr} {d : D} {v : V} {i : Nat} (e : EnvOk R G H env σ f) (hp : put i d env = some env1) (p : Rep R G d v) :
    ∃ f', EnvOk R G H env1 (σ.set i (some v)) f' ∧ Stp G H f G H f' := by
  unfold put at hp
  split at hp
  · rename_i hl
    cases hp
    exact e.set (ev := env[i]) (by simp [hl]) p
  · cases hp
theorem ds_set {i : Nat} {x : Str} {pos' : Pos} (hN : X.N.Nodup) (hi : X.N[i]? = some x) (hx : Loc X.env.scope x) (hp : Pr i = false) (ha : DE X W a Fa) (hs : swapsWith a (some (.Name x pos')) pos.line X.env = pure false := by rfl)
    (hf : X.fn x = true ∨ X.env.scope.names.lookup x = some .local := by first | exact .inl rfl | exact .inr rfl | assumption) : DS X W Pr (.Assign [.Name x pos'] a pos) (setS i Fa) :=
  PS.imp (ps_set hN hi hx ha hs hf) fun D σ H h => tS_bnd (P := Rep (rc X)) h fun G1 env1 f1 d v H1 e p q => by
    cases z : put i d env1 with
    | none => rw [z] at q; exact q.elim
    | some e1 =>
      rw [z] at q
      obtain ⟨f', e', s'⟩ := put_ok e z p
      exact q _ G1 H1 f' s' e' (Kp.set hp)
/-! ### while -/
def whileM (T : M Bool) (B : MS) : Nat → MS
  | 0, _ => .no
  | n + 1, e => match T e with
    | .ok true e1 => (match B e1 with
      | .nx e2 => whileM T B n e2
      | .ct e2 => whileM T B n e2
      | .bk e2 => .nx e2
      | .rt r e2 => .rt r e2
      | .ex x e2 => .ex x e2
      | .no => .no)
    | .ok false e1 => .nx e1
    | .ex x e1 => .ex x e1
    | .no => .no
theorem whileM_mono {T : M Bool} {B : MS} : ∀ {n m : Nat} {e : List EV}, n ≤ m → whileM T B n e ≠ .no → whileM T B m e = whileM T B n e
  | 0, m, e, _, h => absurd rfl h
  | n + 1, 0, e, l, _ => by omega
  | n + 1, m + 1, e, l, h => by
    simp only [whileM] at h ⊢
    cases q : T e with
    | no => rfl
    | ex x e1 => rfl
    | ok b e1 =>
      rw [q] at h
      cases b with
      | false => rfl
      | true =>
        dsimp only at h ⊢
        cases q2 : B e1 with
        | nx e2 => rw [q2] at h; exact whileM_mono (by omega) h
        | ct e2 => rw [q2] at h; exact whileM_mono (by omega) h
        | _ => rfl
open Classical in
/-- a while: with as many turns as it wants -/
noncomputable def whileS (T : M Bool) (B : MS) : MS := fun e => if h : ∃ n, whileM T B n e ≠ .no then whileM T B h.choose e else .no
theorem whileS_eq {T : M Bool} {B : MS} {e : List EV} {n : Nat} (h : whileM T B n e ≠ .no) : whileS T B e = whileM T B n e := by
  unfold whileS
  rw [dif_pos ⟨n, h⟩]
  have h2 := (⟨n, h⟩ : ∃ n, whileM T B n e ≠ .no).choose_spec
  rcases Nat.le_total n (⟨n, h⟩ : ∃ n, whileM T B n e ≠ .no).choose with l | l
  · exact whileM_mono l h
  · exact (whileM_mono l h2).symm
theorem ds_while {T : M Bool} (hp : PassesOwn (model X.prog X.w) X.A X.env X.xe) (hc : DT X W c T) (hb : DSs X W Pr body F1) : DS X W Pr (.While c body [] pos) (whileS T F1) :=
  PS.imp (ps_while hp hc hb) fun D σ H ⟨G, env, f, e, q⟩ => by
    have start : ∃ n, AtS (rc X) W Pr (whileM T F1 n env) G H f σ D := by
      unfold whileS at q
      split at q
      · rename_i h; exact ⟨_, q⟩
      · exact q.elim
    obtain ⟨n, q⟩ := start
    refine ⟨fun m σ1 H1 => ∃ G1 env1 f1, EnvOk (rc X) G1 H1 env1 σ1 f1 ∧ AtS (rc X) W Pr (whileM T F1 m env1) G1 H1 f1 σ1 D, ⟨n, G, env, f, e, q⟩, ?_⟩
    rintro m σ1 H1 ⟨G1, env1, f1, e1, q1⟩
    cases m with
    | zero => exact q1.elim
    | succ m =>
      refine ⟨G1, env1, f1, e1, ?_⟩
      simp only [whileM] at q1
      cases z : T env1 with
      | no => rw [z] at q1; exact q1
      | ex x e2 => rw [z] at q1; exact fun c d G' H' f' s' e' x' => q1 c d σ1 G' H' f' s' e' (.refl σ1) x'
      | ok b e2 =>
        rw [z] at q1
        intro b' G' H' f' s' e' p'
        cases p'
        cases b with
        | false => exact iteF (q1 σ1 G' H' f' s' e' (.refl σ1))
        | true =>
          refine iteT ⟨fun σ' H' => ∃ m', m' < m + 1 ∧ ∃ G1 env1 f1, EnvOk (rc X) G1 H' env1 σ' f1 ∧ AtS (rc X) W Pr (whileM T F1 m' env1) G1 H' f1 σ' D, fun σ' H' h => h, G', e2, f', e', ?_⟩
          have q2 := AtS.step q1 s' (.refl σ1)
          dsimp only at q2
          cases z2 : F1 e2 with
          | nx e3 => rw [z2] at q2; exact fun σ2 G2 H2 f2 s2 e2 k2 => ⟨m, Nat.lt_succ_self m, G2, e3, f2, e2, q2.step s2 k2⟩
          | ct e3 => rw [z2] at q2; exact fun σ2 G2 H2 f2 s2 e2 k2 => ⟨m, Nat.lt_succ_self m, G2, e3, f2, e2, q2.step s2 k2⟩
          | bk e3 => rw [z2] at q2; exact q2
          | rt r e3 => rw [z2] at q2; exact q2
          | ex x e3 => rw [z2] at q2; exact q2
          | no => rw [z2] at q2; exact q2
end
end DL

namespace DL
open PySem PySem.Spec PyProof.Rows L2
variable [LT]

/-! ### targets -/
abbrev TgF := D → List EV → Option (List EV)
/-- the reading of a target -/
def tG (R : RC) (Pr : Nat → Bool) (t : TgF) : TG := fun v σ H Q => ∃ G env f d env', EnvOk R G H env σ f ∧ Rep R G d v ∧ t d env = some env' ∧ ∀ σ' f', EnvOk R G H env' σ' f' → Stp G H f G H f' → Kp Pr σ σ' → Q σ' H
def DG (X : Cx) (Pr : Nat → Bool) (tg : Expr) (t : TgF) : Prop := PG X tg (tG (rc X) Pr t)
abbrev TgsF := List D → List EV → Option (List EV)
def tGs (R : RC) (Pr : Nat → Bool) (t : TgsF) : TGs := fun vs σ H Q => ∃ G env f ds env', EnvOk R G H env σ f ∧ Reps R G ds vs ∧ t ds env = some env' ∧ ∀ σ' f', EnvOk R G H env' σ' f' → Stp G H f G H f' → Kp Pr σ σ' → Q σ' H
def DGs (X : Cx) (Pr : Nat → Bool) (tgs : List Expr) (t : TgsF) : Prop := PGs X tgs (tGs (rc X) Pr t)
theorem PG.imp {X : Cx} {e : Expr} {t t' : TG} (h : PG X e t) (w : ∀ v σ H Q, t' v σ H Q → t v σ H Q) : PG X e t' := ⟨fun pins s σ H v u Q I r q => h.run pins s σ H v u Q I r (w v σ H Q q)⟩
theorem PGs.imp {X : Cx} {es : List Expr} {t t' : TGs} (h : PGs X es t) (w : ∀ vs σ H Q, t' vs σ H Q → t vs σ H Q) : PGs X es t' := ⟨fun pins s σ H v u Q I r q => h.run pins s σ H v u Q I r (w v σ H Q q)⟩
section
variable {X : Cx} {Pr : Nat → Bool} {pos : Pos}
theorem dg_name {i : Nat} {x : Str} (hN : X.N.Nodup) (hi : X.N[i]? = some x) (hx : Loc X.env.scope x) (hp : Pr i = false) (hf : X.fn x = true ∨ X.env.scope.names.lookup x = some .local := by first | exact .inl rfl | exact .inr rfl | assumption) : DG X Pr (.Name x pos) (put i) :=
  PG.imp (pg_name hN hi hx hf) fun v σ H Q ⟨G, env, f, d, env', e, p, h, q⟩ => by
    obtain ⟨f', e', s'⟩ := put_ok e h p
    exact q _ f' e' s' (Kp.set hp)
theorem dgs_nil : DGs X Pr [] (fun ds e => if ds.isEmpty then some e else none) := PGs.imp pgs_nil fun vs σ H Q ⟨G, env, f, ds, env', e, p, h, q⟩ => by
  cases ds with
  | nil =>
    cases h
    exact ⟨p, q σ f e (.refl _ _ _) (.refl σ)⟩
  | cons d r => cases h
def gsCons (t : TgF) (u : TgsF) : TgsF := fun ds e => match ds with
  | d :: r => (t d e).bind fun e1 => u r e1
  | [] => none
theorem dgs_cons {a : Expr} {es : List Expr} {t : TgF} {u : TgsF} (h1 : DG X Pr a t) (h2 : DGs X Pr es u) (hs : (assignEach (a :: es) X.env).map (·.2) = assign a X.env :: (assignEach es X.env).map (·.2) := by rfl) : DGs X Pr (a :: es) (gsCons t u) :=
  PGs.imp (pgs_cons h1 h2 hs) fun vs σ H Q ⟨G, env, f, ds, env', e, p, h, q⟩ => by
    cases ds with
    | nil => cases h
    | cons d r =>
      obtain ⟨v, w, rfl, p1, p2⟩ := p
      obtain ⟨env1, h1, h2⟩ := Option.bind_eq_some_iff.mp (show (t d env).bind (fun e1 => u r e1) = some env' from h)
      refine ⟨v, w, rfl, G, env, f, d, env1, e, p1, h1, fun σ1 f1 e1 s1 k1 => ?_⟩
      exact ⟨G, env1, f1, r, env', e1, p2, h2, fun σ2 f2 e2 s2 k2 => q σ2 f2 e2 (s1.trans s2) (k1.trans k2)⟩
def gsTup (n : Nat) (u : TgsF) : TgF := fun d e => match d with
  | .tup ds => if ds.length = n then u ds e else none
  | .pr x y => if 2 = n then u [x, y] e else none
  | _ => none
theorem dg_tup {es : List Expr} {k n : Nat} {u : TgsF} (hc : X.calm = true) (h : DGs X Pr es u) (hn : (assignEach es X.env).length = n := by rfl) (hst : (assignEach es X.env).findIdx? (·.1) = none := by rfl) : DG X Pr (.Tuple es k pos) (gsTup n u) :=
  PG.imp (pg_tup hc h hn hst) fun v σ H Q ⟨G, env, f, d, env', e, p, hh, q⟩ => by
    cases d with
    | tup ds =>
      obtain ⟨a, vs, rfl, h2, h3⟩ := p
      have hh : (if ds.length = n then u ds env else none) = some env' := hh
      split at hh
      · rename_i hl
        exact ⟨a, vs, rfl, (e.sub.tpA h2).sq, by rw [← h3.length]; exact hl, G, env, f, ds, env', e, h3, hh, q⟩
      · cases hh
    | pr x y =>
      obtain ⟨a, v, w, rfl, h2, h3, h4⟩ := p
      have hh : (if 2 = n then u [x, y] env else none) = some env' := hh
      split at hh
      · rename_i hl
        exact ⟨a, [v, w], rfl, .inl (.inl (e.sub _ _ h2)), hl, G, env, f, [x, y], env', e, ⟨v, [w], rfl, h3, w, [], rfl, h4, rfl⟩, hh, q⟩
      · cases hh
    | _ => cases hh
end
/-! ### what is walked -/
/-- J yields these items, whatever new objects come -/
def Walk (R : RC) (G : Hp) (J : It) (items : List D) : Prop := ∀ (i : Nat) (Gc Hc : Hp), Sub G Gc → Sub Gc Hc →
  (items.length ≤ i → J.stop i Hc) ∧ (∀ d, items[i]? = some d → J.go i Hc ∧ ∀ x H', J.yld i Hc x H' → ∃ Gc', Alo Gc Hc Gc' H' ∧ Rep R Gc' d x)
def tI (R : RC) (W : WX) (F : M (List D)) : TI := fun σ H K => tM R W (fun G ds (J : It) => Walk R G J ds) F σ H K
def DI (X : Cx) (W : WX) (tg iter : Expr) (F : M (List D)) : Prop := PI X tg iter (tI (rc X) W F)
theorem PI.imp {X : Cx} {tg e : Expr} {t t' : TI} (h : PI X tg e t) (w : ∀ σ H Q, t' σ H Q → t σ H Q) : PI X tg e t' := ⟨fun pins s σ H R I q => h.run pins s σ H R I (w σ H R q)⟩
/-- the items of a list, of a tuple -/
def itemsOf : D → Option (List D)
  | .lst xs => some xs
  | .tup xs => some xs
  | .scr ns => some (ns.map .int)
  | _ => none
theorem walk_list {R : RC} {G : Hp} {a : Addr} {xs : List D} {vs : List V} (h : SqL R.K G a vs) (r : Reps R G xs vs) : Walk R G (Itl R.K a) xs := by
  intro i Gc Hc s1 s2
  have hl : SqL R.K Hc a vs := s2.sqL (s1.sqL h)
  refine ⟨fun hi => ⟨vs, hl, by rw [← r.length]; exact hi⟩, fun d hd => ?_⟩
  obtain ⟨v, e1, e2⟩ := r.get hd
  refine ⟨⟨vs, v, hl, e1⟩, fun x H' ⟨y1, y2⟩ => ?_⟩
  subst y1
  have e3 := y2 vs hl
  rw [e1] at e3
  cases e3
  exact ⟨Gc, .refl s2, e2.mono s1⟩
theorem walk_tup {R : RC} {G : Hp} {a : Addr} {xs : List D} {vs : List V} (h : SqT R.K G a vs) (r : Reps R G xs vs) : Walk R G (Itt R.K a) xs := by
  intro i Gc Hc s1 s2
  have hl : SqT R.K Hc a vs := s2.sqT (s1.sqT h)
  refine ⟨fun hi => ⟨vs, hl, by rw [← r.length]; exact hi⟩, fun d hd => ?_⟩
  obtain ⟨v, e1, e2⟩ := r.get hd
  refine ⟨⟨vs, v, hl, e1⟩, fun x H' ⟨y1, y2⟩ => ?_⟩
  subst y1
  have e3 := y2 vs hl
  rw [e1] at e3
  cases e3
  exact ⟨Gc, .refl s2, e2.mono s1⟩
/-- a list or a tuple -/
def iSeq (K : PySem.W.Frag) (tl : TE) : TI := fun σ H R => tl σ H fun x H1 => ∃ a, x = .ref a ∧ (((∃ xs, SqL K H1 a xs) ∧ R (Itl K a) H1) ∨ ((∃ xs, SqT K H1 a xs) ∧ R (Itt K a) H1))
theorem At.fin' {α β : Type} {R : RC} {W : WX} {P : Hp → α → β → Prop} {o : Option α} {G H : Hp} {env : List EV} {f : List Addr} {σ : L2.St} {Q : β → Hp → Prop} (e : EnvOk R G H env σ f) (h : At R W P (ofO o env) G H f σ Q) :
    ∃ a, o = some a ∧ ∀ b, P G a b → Q b H := by
  obtain ⟨a, h1, h2⟩ := h.fin e
  exact ⟨a, h1, fun b p => h2 b G H (.refl e.sub) p⟩
section
variable {X : Cx} {W : WX} {a b c tg : Expr} {Fa Fb Fc : M D} {pos p : Pos}
theorem pi_seq {l : Expr} {tl : TE} (hl : PE X l tl) : PI X tg l (iSeq X.K tl) := by
  constructor
  intro pins s σ H R I h
  refine thn (hl.run pins s σ H _ I h) ?_
  rintro v s1 ⟨x, H1, I1, r1, a, rfl, q⟩
  cases r1
  have fresh : ∀ b ∈ [s1.heap.objs.size], FpOk X pins H1 b := fun b hb => by
    rw [List.mem_singleton.mp hb]
    exact I1.fpOk (Nat.le_refl _) (I1.hok.fresh (Nat.le_refl _))
  rcases q with ⟨⟨xs, hq⟩, q⟩ | ⟨⟨xs, hq⟩, q⟩
  · obtain ⟨its, rv, pl, hz⟩ := I1.list hq
    exact wpAny_pyIter_list pl.isList ⟨s1.heap.objs.size, [s1.heap.objs.size], _, _, H1, rfl, I1.kept (t' := s1.toks) (fun b o e => Heap.get?_push_of_some _ e), turn_list a _, ⟨_, Heap.get?_push_size _ rfl, rfl, rfl⟩, fresh, q⟩
  · obtain ⟨its, rv, pl, hz⟩ := I1.tuple hq
    exact wpAny_pyIter_tuple (show s1.heap.IsTuple a its.toArray from pl) ⟨s1.heap.objs.size, [s1.heap.objs.size], _, _, H1, rfl, I1.kept (t' := s1.toks) (fun b o e => Heap.get?_push_of_some _ e), turn_tuple a _, ⟨_, Heap.get?_push_size _ rfl, rfl, rfl⟩, fresh, q⟩
def seqI (Fa : M D) : M (List D) := bnd Fa fun d => ofO (itemsOf d)
theorem di_seq (ha : DE X W a Fa) : DI X W tg a (seqI Fa) := PI.imp (pi_seq ha) fun σ H Q h => by
  refine tM_then (P1 := Rep (rc X)) h fun G1 env1 f1 d v H1 e p q => ?_
  obtain ⟨ds, hd, q2⟩ := q.fin' e
  clear q
  cases d with
  | lst xs =>
    cases hd
    obtain ⟨a, vs, rfl, h2, h3⟩ := p
    exact ⟨a, rfl, .inl ⟨⟨vs, SqL.of (e.sub _ _ h2)⟩, q2 _ (walk_list (R := rc X) (SqL.of h2) h3)⟩⟩
  | tup xs =>
    cases hd
    obtain ⟨a, vs, rfl, h2, h3⟩ := p
    exact ⟨a, rfl, .inr ⟨⟨vs, (e.sub.tpA h2).sq⟩, q2 _ (walk_tup (R := rc X) h2.sq h3)⟩⟩
  | scr ns =>
    cases hd
    obtain ⟨a, rfl, h2⟩ := p
    exact ⟨a, rfl, .inl ⟨⟨_, e.sub.sqL h2⟩, q2 _ (walk_list (R := rc X) h2 (ints_reps ns))⟩⟩
  | _ => cases hd
/-! ### ranges -/
def rgD (i : Int) (n : Nat) : List D := (List.range n).map fun k => .int (i + (k : Nat))
theorem walk_rg {R : RC} {G : Hp} {i : Int} {n : Nat} : Walk R G (Itr i n) (rgD i n) := by
  intro j Gc Hc s1 s2
  have hl : (rgD i n).length = n := by simp [rgD]
  refine ⟨fun hi => by rw [hl] at hi; exact hi, fun d hd => ?_⟩
  have hj : j < n := by
    have := (List.getElem?_eq_some_iff.mp hd).1
    omega
  refine ⟨hj, fun x H' ⟨y1, y2⟩ => ?_⟩
  subst y1 y2
  refine ⟨Gc, .refl s2, ?_⟩
  simp only [rgD, List.getElem?_map, List.getElem?_range hj, Option.map_some, Option.some.injEq] at hd
  subst hd
  rfl
/-- (so written that nothing is counted down where i is not known) -/
def small62 : Int → Bool
  | .ofNat n => Nat.ble n 4611686018427387903
  | .negSucc n => Nat.ble n 4611686018427387903
theorem small62_iff {i : Int} : small62 i = true ↔ (-4611686018427387904 ≤ i ∧ i < 4611686018427387904) := by
  cases i with
  | ofNat n =>
    show Nat.ble n _ = true ↔ _
    rw [Nat.ble_eq]
    simp only [Int.ofNat_eq_natCast]
    omega
  | negSucc n =>
    show Nat.ble n _ = true ↔ _
    rw [Nat.ble_eq]
    omega
def gRg1 : List D → Option (List D)
  | [.int j] => if small62 j then some (rgD 0 j.toNat) else none
  | _ => none
def gRg2 : List D → Option (List D)
  | [.int i, .int j] => if small62 i && small62 j then some (rgD i (j - i).toNat) else none
  | _ => none
def onI (g : List D → Option (List D)) (Fs : M (List D)) : M (List D) := bnd Fs fun ds => ofO (g ds)
theorem di_rg1 {Fs : M (List D)} (hg : Gl X "range") (hm : X.mg "range" = none) (ha : DAs X W [a] Fs) (hs : starEach [a] X.env = [(false, eval a X.env)] := by rfl) : DI X W tg (.Call (.Name "range" p) [a] [] pos) (onI gRg1 Fs) :=
  PI.imp (pi_range1 hg hm ha hs) fun σ H Q h => by
    refine tM_then (P1 := Reps (rc X)) h fun G1 env1 f1 ds vs H1 e p q => ?_
    obtain ⟨l, hl, q⟩ := q.fin' e
    unfold gRg1 at hl
    split at hl
    · rename_i j
      split at hl
      · rename_i hb
        cases hl
        obtain ⟨v, rfl, h⟩ := p.one'
        have hb := small62_iff.mp hb
        exact ⟨j, by rw [show v = .int j from h], by omega, by omega, q _ walk_rg⟩
      · cases hl
    · cases hl
theorem di_rg2 {Fs : M (List D)} (hg : Gl X "range") (hm : X.mg "range" = none) (ha : DAs X W [a, b] Fs) (hs : starEach [a, b] X.env = [(false, eval a X.env), (false, eval b X.env)] := by rfl) (hs2 : starEach [b] X.env = [(false, eval b X.env)] := by rfl) :
    DI X W tg (.Call (.Name "range" p) [a, b] [] pos) (onI gRg2 Fs) :=
  PI.imp (pi_range2 hg hm ha hs hs2) fun σ H Q h => by
    refine tM_then (P1 := Reps (rc X)) h fun G1 env1 f1 ds vs H1 e p q => ?_
    obtain ⟨l, hl, q⟩ := q.fin' e
    unfold gRg2 at hl
    split at hl
    · rename_i i j
      split at hl
      · rename_i hb
        cases hl
        obtain ⟨v, v', rfl, h1, h2⟩ := p.two'
        obtain ⟨hb1, hb2⟩ := Bool.and_eq_true_iff.mp hb
        have hb1 := small62_iff.mp hb1
        have hb2 := small62_iff.mp hb2
        exact ⟨i, j, by rw [show v = .int i from h1, show v' = .int j from h2], ⟨by omega, by omega, by omega, by omega⟩, q _ walk_rg⟩
      · cases hl
    · cases hl
/-! ### for -/
variable {Pr : Nat → Bool} {body : List Stmt} {F1 : MS}
def forM (t : TgF) (B : MS) : List D → MS
  | [], e => .nx e
  | d :: r, e => match t d e with
    | none => .no
    | some e1 => (match B e1 with
      | .nx e2 => forM t B r e2
      | .ct e2 => forM t B r e2
      | .bk e2 => .nx e2
      | .rt r e2 => .rt r e2
      | .ex x e2 => .ex x e2
      | .no => .no)
def forS (Fi : M (List D)) (t : TgF) (B : MS) : MS := bndS Fi fun ds => forM t B ds
theorem ds_for {Fi : M (List D)} {t : TgF} (hp : PassesOwn (model X.prog X.w) X.A X.env X.xe) (hc : X.calm = true) (hi : DI X W tg a Fi) (hg : DG X Pr tg t) (hb : DSs X W Pr body F1) (hs : ∀ x, foldedSetIterable a X.env x = pure x := by intro _; rfl) :
    DS X W Pr (.For tg a body [] pos) (forS Fi t F1) := PS.imp (ps_for hp hc hi hg hb hs) fun D σ H h =>
  tS_bnd (P := fun G ds (J : It) => Walk (rc X) G J ds) h fun G1 env1 f1 ds J H1 e1 w q => by
    refine ⟨fun i m σ2 H2 => ∃ G2 env2 f2, EnvOk (rc X) G2 H2 env2 σ2 f2 ∧ Sub G1 G2 ∧ m = ds.length - i ∧ i ≤ ds.length ∧ AtS (rc X) W Pr (forM t F1 (ds.drop i) env2) G2 H2 f2 σ2 D, ⟨ds.length, G1, env1, f1, e1, .refl _, by simp, Nat.zero_le _, by rw [List.drop_zero]; exact q⟩, ?_⟩
    rintro i m σ2 H2 ⟨G2, env2, f2, e2, s2, rfl, hi, q2⟩
    obtain ⟨w1, w2⟩ := w i G2 H2 s2 e2.sub
    by_cases hlt : i < ds.length
    · obtain ⟨go, yl⟩ := w2 ds[i] (by simp [hlt])
      refine .inr ⟨go, fun σ' H' => ∃ G2 env2 f2, EnvOk (rc X) G2 H' env2 σ' f2 ∧ Sub G1 G2 ∧ AtS (rc X) W Pr (forM t F1 (ds.drop (i + 1)) env2) G2 H' f2 σ' D, ?_, ?_⟩
      · rintro σ' H' ⟨G3, env3, f3, e3, s3, q3⟩
        exact ⟨ds.length - (i + 1), by omega, G3, env3, f3, e3, s3, rfl, hlt, q3⟩
      · intro x H' hy
        obtain ⟨G3, al, rx⟩ := yl x H' hy
        rw [List.drop_eq_getElem_cons hlt] at q2
        simp only [forM] at q2
        cases z : t ds[i] env2 with
        | none => rw [z] at q2; exact q2.elim
        | some env3 =>
          rw [z] at q2
          have e3 := e2.alo al
          refine ⟨G3, env2, f2, ds[i], env3, e3, rx, z, fun σ3 f3 e4 s4 k4 => ⟨G3, env3, f3, e4, ?_⟩⟩
          have q3 := q2.step ((al.stp f2).trans s4) k4
          dsimp only at q3
          cases z2 : F1 env3 with
          | nx e5 => rw [z2] at q3; exact fun σ' G' H'' f' s' e' k' => ⟨G', e5, f', e', (s2.trans al.sub).trans s'.sub, q3.step s' k'⟩
          | ct e5 => rw [z2] at q3; exact fun σ' G' H'' f' s' e' k' => ⟨G', e5, f', e', (s2.trans al.sub).trans s'.sub, q3.step s' k'⟩
          | bk e5 => rw [z2] at q3; exact q3
          | rt r e5 => rw [z2] at q3; exact q3
          | ex x e5 => rw [z2] at q3; exact q3
          | no => rw [z2] at q3; exact q3
    · have hi : i = ds.length := by omega
      subst hi
      rw [List.drop_length] at q2
      exact .inl ⟨w1 (Nat.le_refl _), q2 σ2 G2 H2 f2 (.refl _ _ _) e2 (.refl σ2)⟩
end
end DL

namespace DL
open PySem PySem.Spec PyProof.Rows L2
variable [LT]

/-! ### list comprehensions -/
/-- the block's own names forgotten -/
def wipeE (e : List EV) : List Nat → List EV
  | [] => e
  | v :: vs => (wipeE e vs).set v .un
theorem wipeE_length (e : List EV) : ∀ vs, (wipeE e vs).length = e.length
  | [] => rfl
  | v :: vs => by rw [wipeE, List.length_set, wipeE_length e vs]
theorem EnvOk.wipe1 {R : RC} {G H : Hp} {env : List EV} {σ : L2.St} {f : List Addr} (i : Nat) (e : EnvOk R G H env σ f) : ∃ f', EnvOk R G H (env.set i .un) (σ.set i none) f' ∧ Stp G H f G H f' := by
  by_cases hi : i < env.length
  · obtain ⟨s0, f1, f2, f3, h1, h2, h3, h4⟩ := e.sl.at (show env[i]? = some env[i] by simp [hi])
    subst h2
    have nd := e.nd
    refine ⟨f1 ++ [] ++ f3, ⟨e.sub, h4 G H .un none [] (.refl G) (fun _ _ _ h => h) rfl, ?_, fun a ha => e.fr a ?_, e.nt, e.tb⟩, Stp.less fun a ha => ?_⟩
    · rw [List.append_nil]
      exact nd.sublist (by rw [List.append_assoc]; exact List.Sublist.append (List.Sublist.refl _) (List.sublist_append_right _ _))
    · simp only [List.append_nil, List.mem_append] at ha ⊢
      rcases ha with z | z
      · exact .inl (.inl z)
      · exact .inr z
    · simp only [List.append_nil, List.mem_append] at ha ⊢
      rcases ha with z | z
      · exact .inl (.inl z)
      · exact .inr z
  · rw [List.set_eq_of_length_le (by omega), List.set_eq_of_length_le (by rw [← e.sl.length]; omega)]
    exact ⟨f, e, .refl _ _ _⟩
theorem EnvOk.wipe {R : RC} {G H : Hp} {env : List EV} {σ : L2.St} {f : List Addr} (e : EnvOk R G H env σ f) : ∀ vs : List Nat, ∃ f', EnvOk R G H (wipeE env vs) (L2.wipe σ vs) f' ∧ Stp G H f G H f'
  | [] => ⟨f, e, .refl _ _ _⟩
  | v :: vs => by
    obtain ⟨f1, e1, s1⟩ := e.wipe vs
    obtain ⟨f2, e2, s2⟩ := e1.wipe1 v
    exact ⟨f2, e2, s1.trans s2⟩
/-- back from the block: its own slots are the outer ones again, as data (own things may not stand there) -/
def backE (e0 e1 : List EV) : List Nat → Option (List EV)
  | [] => some e1
  | v :: vs => (backE e0 e1 vs).bind fun e => match e0[v]? with
    | some (.v d) => some (e.set v (.v d))
    | some .un => some (e.set v .un)
    | none => some e
    | _ => none
theorem EnvOk.back {R : RC} {G0 H0 : Hp} {e0 : List EV} {σ : L2.St} {f0 : List Addr} (k0 : EnvOk R G0 H0 e0 σ f0) : ∀ (vs : List Nat) {G H : Hp} {e1 e2 : List EV} {f1 : List Addr}, Sub G0 G → EnvOk R G H e1 (L2.wipe σ vs) f1 → backE e0 e1 vs = some e2 → ∃ f2, EnvOk R G H e2 σ f2 ∧ Stp G H f1 G H f2 := by
  -- the slots' list is put back place by place
  have key : ∀ (vs : List Nat) {G H : Hp} {e1 e2 : List EV} {σ1 : L2.St} {f1 : List Addr}, Sub G0 G → EnvOk R G H e1 σ1 f1 → σ1.length = σ.length → backE e0 e1 vs = some e2 → ∃ σ2 f2, EnvOk R G H e2 σ2 f2 ∧ Stp G H f1 G H f2 ∧ σ2.length = σ.length ∧ (∀ j, (j ∈ vs → σ2[j]? = σ[j]?) ∧ (σ1[j]? = σ[j]? → σ2[j]? = σ[j]?)) := by
    intro vs
    induction vs with
    | nil =>
      intro G H e1 e2 σ1 f1 s k hl h
      cases h
      exact ⟨σ1, f1, k, .refl _ _ _, hl, fun j => ⟨fun z => (by cases z), fun z => z⟩⟩
    | cons v vs ih =>
      intro G H e1 e2 σ1 f1 s k hl h
      obtain ⟨e, h1, h2⟩ := Option.bind_eq_some_iff.mp (show (backE e0 e1 vs).bind _ = some e2 from h)
      obtain ⟨σ2, f2, k2, s2, hl2, a2⟩ := ih s k hl h1
      cases q : e0[v]? with
      | none =>
        rw [q] at h2
        cases h2
        have hv : σ.length ≤ v := by rw [← k0.sl.length]; exact List.getElem?_eq_none_iff.mp q
        refine ⟨σ2, f2, k2, s2, hl2, fun j => ⟨fun z => ?_, (a2 j).2⟩⟩
        rcases List.mem_cons.mp z with z | z
        · subst z
          rw [List.getElem?_eq_none_iff.mpr hv, List.getElem?_eq_none_iff.mpr (by omega)]
        · exact (a2 j).1 z
      | some ev =>
        rw [q] at h2
        obtain ⟨s0, _, _, _, g1, _, g3, _⟩ := k0.sl.at q
        have hv2 : v < σ2.length := by rw [hl2]; exact (List.getElem?_eq_some_iff.mp g1).1
        have ve : v < e.length := by rw [k2.sl.length]; exact hv2
        have upd : ∀ x : Option V, σ[v]? = some x → ∀ j, (j ∈ v :: vs → (σ2.set v x)[j]? = σ[j]?) ∧ (σ1[j]? = σ[j]? → (σ2.set v x)[j]? = σ[j]?) := fun x hx j => by
          by_cases hj : j = v
          · subst hj
            rw [List.getElem?_set_self hv2, hx]
            exact ⟨fun _ => rfl, fun _ => rfl⟩
          · rw [List.getElem?_set_ne (Ne.symm hj)]
            exact ⟨fun z => (List.mem_cons.mp z).elim (fun z => absurd z hj) (a2 j).1, (a2 j).2⟩
        cases ev with
        | v d =>
          cases h2
          obtain ⟨_, w, hw, rw'⟩ := g3
          subst hw
          obtain ⟨f3, k3, s3⟩ := k2.set (d := d) (v := w) (i := v) (ev := e[v]) (by simp [ve]) (rw'.mono s)
          exact ⟨σ2.set v (some w), f3, k3, s2.trans s3, by rw [List.length_set]; exact hl2, upd _ g1⟩
        | un =>
          cases h2
          obtain ⟨f3, k3, s3⟩ := k2.wipe1 v
          -- a forgotten slot may hold anything
          obtain ⟨s1', f1', f2', f3', q1, q2, q3, q4⟩ := k2.sl.at (show e[v]? = some e[v] by simp [ve])
          have nd := k2.nd
          rw [q2] at nd
          have sl := q4 G H .un s0 [] (.refl G) (fun _ _ _ h => h) rfl
          refine ⟨σ2.set v s0, f1' ++ [] ++ f3', ⟨k2.sub, sl, ?_, fun a ha => k2.fr a ?_, k2.nt, k2.tb⟩, s2.trans (Stp.less fun a ha => ?_), by rw [List.length_set]; exact hl2, upd _ g1⟩
          · rw [List.append_nil]
            exact nd.sublist (by rw [List.append_assoc]; exact List.Sublist.append (List.Sublist.refl _) (List.sublist_append_right _ _))
          · rw [q2]
            simp only [List.append_nil, List.mem_append] at ha ⊢
            rcases ha with z | z
            · exact .inl (.inl z)
            · exact .inr z
          · rw [q2]
            simp only [List.append_nil, List.mem_append] at ha ⊢
            rcases ha with z | z
            · exact .inl (.inl z)
            · exact .inr z
        | ol xs => cases h2
        | oi c fn fv => cases h2
        | od t ks xs => cases h2
  intro vs G H e1 e2 f1 s k h
  obtain ⟨σ2, f2, k2, s2, hl2, a2⟩ := key vs s k (L2.wipe_length σ vs) h
  have e : σ2 = σ := by
    apply List.ext_getElem?
    intro j
    by_cases hj : j ∈ vs
    · exact (a2 j).1 hj
    · refine (a2 j).2 ?_
      clear a2 k2 s2 hl2 h k s
      induction vs with
      | nil => rfl
      | cons v vs ih =>
        simp only [List.mem_cons, not_or] at hj
        show ((L2.wipe σ vs).set v none)[j]? = _
        rw [List.getElem?_set_ne (Ne.symm hj.1)]
        exact ih hj.2
  subst e
  exact ⟨f2, k2, s2⟩
end DL

namespace DL
open PySem PySem.Spec PyProof.Rows L2
variable [LT]

theorem Stp.cons {G H G' H' : Hp} {f f' : List Addr} (a : Addr) (s : Stp G H f G' H' f') : Stp G H (a :: f) G' H' (a :: f') :=
  ⟨s.sub, fun c o h hc => s.keep c o h fun z => hc (List.mem_cons_of_mem _ z), fun c o h => (s.grow c o h).imp id (Or.imp id fun z => List.mem_cons_of_mem _ z), fun c hc => by
    rcases List.mem_cons.mp hc with z | z
    · exact .inl (z ▸ List.mem_cons_self ..)
    · exact (s.own c z).imp (fun z => List.mem_cons_of_mem _ z) id⟩
theorem Stp.lay {G H : Hp} {f : List Addr} {a : Addr} {o : HO} (h : H a = none) : Stp G H f G (upd H a o) (a :: f) :=
  ⟨.refl G, fun c u e _ _ => by rw [upd_ne (ne_of_none e h)]; exact e, fun c u e => .inl e, fun c hc => by
    rcases List.mem_cons.mp hc with z | z
    · exact .inr (z ▸ Fre.free h)
    · exact .inl z⟩
theorem Stp.write {G H : Hp} {f : List Addr} {a : Addr} {o : HO} : Stp G H (a :: f) G (upd H a o) (a :: f) := by
  have ne : ∀ {c : Addr}, c ∉ a :: f → c ≠ a := fun {c} hc z => hc (by rw [z]; exact List.mem_cons_self ..)
  refine ⟨.refl G, fun c u e hc _ => ?_, fun c u e => .inl e, fun c hc => .inl hc⟩
  rw [upd_ne (ne hc)]; exact e
theorem Stp.freeze {G H : Hp} {f : List Addr} {a : Addr} {o : HO} (hg : G a = none) : Stp G H (a :: f) (upd G a o) H f :=
  ⟨fun c u e => by rw [upd_ne (ne_of_none e hg)]; exact e, fun c u e _ _ => e, fun c u e => by
    by_cases hc : c = a
    · exact .inr (.inr (hc ▸ List.mem_cons_self ..))
    · rw [upd_ne hc] at e; exact .inl e, fun c hc => .inl (List.mem_cons_of_mem _ hc)⟩
/-- an own object apart stays apart -/
theorem Stp.apart {G H G' H' : Hp} {f f' : List Addr} {a : Addr} {o : HO} (s : Stp G H f G' H' f') (h : H a = some o) (hg : G a = none) (hf : a ∉ f) (nt : NT o := by intro _ z; cases z) : H' a = some o ∧ G' a = none ∧ a ∉ f' := by
  refine ⟨s.keep a o h hf nt, ?_, fun z => ?_⟩
  · cases q : G' a with
    | none => rfl
    | some u =>
      rcases s.grow a u q with z | z | z
      · rw [hg] at z; cases z
      · exact (z.not h nt).elim
      · exact absurd z hf
  · rcases s.own a z with z | z
    · exact hf z
    · exact z.not h nt
/-- what may be written: no table, no code object -/
def Wr (H : Hp) (a : Addr) : Prop := ∀ u, H a = some u → NT u ∧ ∀ c q, u ≠ LamX.CodeO c q
theorem Wr.free {H : Hp} {a : Addr} (h : H a = none) : Wr H a := fun u e => by rw [h] at e; cases e
theorem Wr.lst {H : Hp} {a : Addr} {vs : List V} (h : H a = some (.lst vs)) : Wr H a := fun u e => by
  rw [h] at e; cases e
  exact ⟨fun _ z => (by cases z), fun c q z => (by have z' : HO.lst vs = HO.ext _ := z; cases z')⟩
theorem Wr.ins {H : Hp} {a C dx : Addr} {fs : List (Str × V)} (h : H a = some (.ins C dx fs)) : Wr H a := fun u e => by
  rw [h] at e; cases e
  exact ⟨fun _ z => (by cases z), fun c q z => (by have z' : HO.ins C dx fs = HO.ext _ := z; cases z')⟩
theorem tabs_upd {T : List (Addr × Str)} {H : Hp} {a : Addr} {o : HO} (t : LamX.Tabs T H) (w : Wr H a) : LamX.Tabs T (upd H a o) := fun p hp => by
  obtain ⟨ps, h1, h2, h3⟩ := t p hp
  refine ⟨ps, ?_, h2, fun pos cv hc => ?_⟩
  · rw [upd_ne (fun z => by rw [z] at h1; exact (w _ h1).1 ps rfl)]; exact h1
  · obtain ⟨c, e1, e2⟩ := h3 pos cv hc
    exact ⟨c, e1, by rw [upd_ne (fun z => by rw [z] at e2; exact (w _ e2).2 _ _ rfl)]; exact e2⟩
/-- the slots beside an own object that is written -/
theorem EnvOk.beside {R : RC} {G H : Hp} {env : List EV} {σ : L2.St} {f : List Addr} {a : Addr} {o : HO} (e : EnvOk R G H env σ f) (hg : G a = none) (hf : a ∉ f) (w : Wr H a) : EnvOk R G (upd H a o) env σ f :=
  ⟨fun c u h => by rw [upd_ne (ne_of_none h hg)]; exact e.sub c u h, e.sl.keep (.refl G) (fun c hc u h => by rw [upd_ne (show c ≠ a from fun z => hf (by rw [← z]; exact hc))]; exact h), e.nd, e.fr, e.nt, tabs_upd e.tb w⟩
/-- .. that becomes frozen -/
theorem EnvOk.frozen {R : RC} {G H : Hp} {env : List EV} {σ : L2.St} {f : List Addr} {a : Addr} {o : HO} (e : EnvOk R G H env σ f) (hg : G a = none) (h : H a = some o) (hf : a ∉ f) (nt : NT o := by intro _ z; cases z) : EnvOk R (upd G a o) H env σ f := by
  refine ⟨fun c u q => ?_, e.sl.keep (fun c u q => by rw [upd_ne (ne_of_none q hg)]; exact q) (fun c _ u h => h), e.nd, fun c hc => ?_, fun c u q => ?_, e.tb⟩
  · by_cases hc : c = a
    · subst hc; rw [upd_same] at q; cases q; exact h
    · rw [upd_ne hc] at q; exact e.sub c u q
  · rw [upd_ne (show c ≠ a from fun z => hf (by rw [← z]; exact hc))]; exact e.fr c hc
  · by_cases hc : c = a
    · subst hc; rw [upd_same] at q; cases q; exact nt
    · rw [upd_ne hc] at q; exact e.nt c u q

theorem wipe_in (σ : L2.St) : ∀ (vs : List Nat) (j : Nat), j ∈ vs → j < σ.length → (L2.wipe σ vs)[j]? = some none
  | v :: vs, j, h, hl => by
    show ((L2.wipe σ vs).set v none)[j]? = _
    by_cases hj : j = v
    · subst hj; rw [List.getElem?_set_self (by rw [L2.wipe_length]; exact hl)]
    · rw [List.getElem?_set_ne (Ne.symm hj)]
      exact wipe_in σ vs j ((List.mem_cons.mp h).elim (fun z => absurd z hj) id) hl
theorem wipe_out (σ : L2.St) : ∀ (vs : List Nat) (j : Nat), j ∉ vs → (L2.wipe σ vs)[j]? = σ[j]?
  | [], j, h => rfl
  | v :: vs, j, h => by
    simp only [List.mem_cons, not_or] at h
    show ((L2.wipe σ vs).set v none)[j]? = _
    rw [List.getElem?_set_ne (Ne.symm h.1)]
    exact wipe_out σ vs j h.2
theorem wipe_again {σ σ2 : L2.St} {vs : List Nat} {Pr : Nat → Bool} (hv : ∀ i, Pr i = false → i ∈ vs) (k : Kp Pr (L2.wipe σ vs) σ2) : L2.wipe σ2 vs = L2.wipe σ vs := by
  have hl : σ2.length = σ.length := k.1.trans (L2.wipe_length σ vs)
  apply List.ext_getElem?
  intro j
  by_cases hj : j ∈ vs
  · by_cases hlt : j < σ.length
    · rw [wipe_in _ _ _ hj hlt, wipe_in _ _ _ hj (by omega)]
    · rw [List.getElem?_eq_none_iff.mpr (by rw [L2.wipe_length]; omega), List.getElem?_eq_none_iff.mpr (by rw [L2.wipe_length]; omega)]
  · rw [wipe_out _ _ _ hj]
    refine k.2 j ?_
    cases q : Pr j with
    | true => rfl
    | false => exact absurd (hv j q) hj
def lcM (vs : List Nat) (t : TgF) (T : M Bool) (Fe : M D) : List D → List D → M (List D)
  | [], acc, e => .ok acc e
  | d :: r, acc, e => match t d e with
    | none => .no
    | some e1 => (match T e1 with
      | .ok false e2 => lcM vs t T Fe r acc (wipeE e2 vs)
      | .ok true e2 => (match Fe e2 with
        | .ok x e3 => if acc.length < 16777216 then lcM vs t T Fe r (acc ++ [x]) (wipeE e3 vs) else .no
        | _ => .no)
      | _ => .no)
/-- the whole: its items as a list that is all one's own -/
def lcF (vs : List Nat) (Fi : M (List D)) (t : TgF) (T : M Bool) (Fe : M D) : M (List D) := bnd Fi fun ds e0 => match lcM vs t T Fe ds [] (wipeE e0 vs) with
  | .ok acc e1 => (match backE e0 e1 vs with
    | some e2 => .ok acc e2
    | none => .no)
  | _ => .no
/-- the reading's end: the new list lies at a, one's own -/
def AtL (R : RC) (m : Out (List D)) (G H : Hp) (f : List Addr) (σ : L2.St) (Q : VK) : Prop := match m with
  | .ok ds e => ∀ a vs G' H' f', Stp G H f G' H' (a :: f') → EnvOk R G' H' e σ f' → H' a = some (.lst vs) → G' a = none → a ∉ f' → Reps R G' ds vs → Q (.ref a) H'
  | _ => False
section
variable {R : RC} {W : WX}
theorem lc_read {vs : List Nat} {Pr : Nat → Bool} {t : TgF} {T : M Bool} {Fe : M D} {ds : List D} {J : It} {G1 H1 : Hp} {e0 : List EV} {f1 : List Addr} {σ : L2.St} {Q : VK} (e1 : EnvOk R G1 H1 e0 σ f1) (w : Walk R G1 J ds) (hv : ∀ i, Pr i = false → i ∈ vs)
    (q : AtL R (match lcM vs t T Fe ds [] (wipeE e0 vs) with
      | .ok acc e1 => (match backE e0 e1 vs with
        | some e2 => .ok acc e2
        | none => .no)
      | _ => .no) G1 H1 f1 σ Q) {D : Addr} (hD : H1 D = none) :
    ∃ Wv : Nat → Nat → Hp → Prop, (∃ m, Wv 0 m (upd H1 D (.lst []))) ∧ ∀ i m H, Wv i m H → (J.stop i H ∧ Q (.ref D) H) ∨ (J.go i H ∧ ∃ Nx : Hp → Prop, (∀ H', Nx H' → ∃ m', m' < m ∧ Wv (i + 1) m' H') ∧
      ∀ x H', J.yld i H x H' → tG R Pr t x (L2.wipe σ vs) H' fun σ2 H2 => L2.wipe σ2 vs = L2.wipe σ vs ∧ tM R (fun _ _ _ _ => False) PB T σ2 H2 fun b H3 =>
        if b = true then tM R (fun _ _ _ _ => False) (Rep R) Fe σ2 H3 fun y H4 => ∃ acc, H4 D = some (.lst acc) ∧ acc.length < sizeLine ∧ Nx (upd H4 D (.lst (acc ++ [y]))) else Nx H3) := by
  -- what is so at each turn
  let Inv1 : Nat → Hp → Prop := fun i H => ∃ G env f acc us, EnvOk R G H env (L2.wipe σ vs) f ∧ D ∉ f ∧ G D = none ∧ H D = some (.lst us) ∧ Reps R G acc us ∧ Stp G1 H1 f1 G H (D :: f) ∧
    AtL R (match lcM vs t T Fe (ds.drop i) acc env with
      | .ok acc e1 => (match backE e0 e1 vs with
        | some e2 => .ok acc e2
        | none => .no)
      | _ => .no) G1 H1 f1 σ Q
  refine ⟨fun i m H => m = ds.length - i ∧ i ≤ ds.length ∧ Inv1 i H, ⟨ds.length, by simp, Nat.zero_le _, ?_⟩, ?_⟩
  · obtain ⟨f2, e2, s2⟩ := e1.wipe vs
    have gD : G1 D = none := by
      cases z : G1 D with
      | none => rfl
      | some u => rw [e1.sub _ _ z] at hD; cases hD
    have fD : D ∉ f2 := fun z => by
      obtain ⟨o, ho, _⟩ := e2.sl.there D z
      rw [hD] at ho; cases ho
    exact ⟨G1, _, f2, [], [], e2.beside gD fD (.free hD), fD, gD, upd_same, rfl, s2.trans (Stp.lay hD), by rw [List.drop_zero]; exact q⟩
  · rintro i m H ⟨rfl, hi, G, env, f, acc, us, ev, fD, gD, hDl, ra, st, q⟩
    obtain ⟨w1, w2⟩ := w i G H st.sub ev.sub
    by_cases hlt : i < ds.length
    · obtain ⟨go, yl⟩ := w2 ds[i] (by simp [hlt])
      refine .inr ⟨go, fun H' => Inv1 (i + 1) H', fun H' h => ⟨ds.length - (i + 1), by omega, rfl, hlt, h⟩, fun x H' hy => ?_⟩
      obtain ⟨G2, al, rx⟩ := yl x H' hy
      have ap := (al.stp f).apart hDl gD fD
      rw [List.drop_eq_getElem_cons hlt] at q
      simp only [lcM] at q
      cases z : t ds[i] env with
      | none => rw [z] at q; exact q.elim
      | some env1 =>
        rw [z] at q
        dsimp only at q
        refine ⟨G2, env, f, ds[i], env1, ev.alo al, rx, z, fun σ2 f2 e2 s2 k2 => ?_⟩
        have hw := wipe_again hv k2
        refine ⟨hw, ?_⟩
        have st2 := st.trans (((al.stp f).trans s2).cons D)
        have ap2 := s2.apart ap.1 ap.2.1 fD
        refine ⟨G2, env1, f2, e2, ?_⟩
        cases z2 : T env1 with
        | no => rw [z2] at q; exact q.elim
        | ex x e => rw [z2] at q; exact q.elim
        | ok b e3 =>
          rw [z2] at q
          intro b' G3 H3 f3 s3 e4 p
          cases p
          have ap3 := s3.apart ap2.1 ap2.2.1 ap2.2.2
          have st3 := st2.trans (s3.cons D)
          have back : ∀ {G4 H4 : Hp} {f4 : List Addr} {e5 : List EV} {acc' : List DL.D} {us' : List V}, EnvOk R G4 H4 e5 σ2 f4 → D ∉ f4 → G4 D = none → H4 D = some (.lst us') → Reps R G4 acc' us' → Stp G1 H1 f1 G4 H4 (D :: f4) →
              AtL R (match lcM vs t T Fe (ds.drop (i + 1)) acc' (wipeE e5 vs) with
                | .ok acc e1 => (match backE e0 e1 vs with
                  | some e2 => .ok acc e2
                  | none => .no)
                | _ => .no) G1 H1 f1 σ Q → Inv1 (i + 1) H4 := fun {G4 H4 f4 e5 acc' us'} k4 fD4 gD4 hD4 r4 st4 q4 => by
            obtain ⟨f6, e6, s6⟩ := k4.wipe vs
            rw [hw] at e6
            exact ⟨G4, _, f6, acc', us', e6, (fun z => by
              rcases s6.own D z with z | z
              · exact fD4 z
              · exact z.not hD4 (fun _ y => by cases y)), gD4, hD4, r4, st4.trans (s6.cons D), q4⟩
          cases b with
          | false => exact iteF (back e4 ap3.2.2 ap3.2.1 ap3.1 (ra.mono (al.sub.trans (s2.sub.trans s3.sub))) st3 q)
          | true =>
            refine iteT ⟨G3, e3, f3, e4, ?_⟩
            dsimp only at q
            cases z3 : Fe e3 with
            | no => rw [z3] at q; exact q.elim
            | ex x e => rw [z3] at q; exact q.elim
            | ok d e5 =>
              rw [z3] at q
              intro y G4 H4 f4 s4 e6 p
              have ap4 := s4.apart ap3.1 ap3.2.1 ap3.2.2
              dsimp only at q
              by_cases hz : acc.length < 16777216
              · rw [if_pos hz] at q
                have ra4 := ra.mono (al.sub.trans (s2.sub.trans (s3.sub.trans s4.sub)))
                refine ⟨us, ap4.1, by rw [sizeLine_eq, ← ra4.length]; exact hz, ?_⟩
                exact back (e6.beside ap4.2.1 ap4.2.2 (.lst ap4.1)) ap4.2.2 ap4.2.1 upd_same (ra4.append (Reps.one p)) ((st3.trans (s4.cons D)).trans Stp.write) q
              · rw [if_neg hz] at q
                exact q.elim
    · have hi : i = ds.length := by omega
      subst hi
      rw [List.drop_length] at q
      simp only [lcM] at q
      cases z : backE e0 env vs with
      | none => rw [z] at q; exact q.elim
      | some e2 =>
        rw [z] at q
        obtain ⟨f2, k2, s2⟩ := e1.back vs st.sub ev z
        refine .inl ⟨w1 (Nat.le_refl _), q D us G H f2 (st.trans (s2.cons D)) k2 hDl gD (fun z => ?_) ra⟩
        rcases s2.own D z with z | z
        · exact fD z
        · exact z.not hDl (fun _ y => by cases y)
end
end DL

namespace DL
open PySem PySem.Spec PyProof.Rows L2
variable [LT]

/-! ### a value that is one's own -/
def AtO (R : RC) (W : WX) (m : Out EV) (G H : Hp) (f : List Addr) (σ : L2.St) (Q : VK) : Prop :=
  match m with
  | .ok ev e => ∀ v G' H' f', Stp G H f G' H' f' → EnvOk R G' H' (ev :: e) (some v :: σ) f' → Q v H'
  | .ex x e => ∀ c d G' H' f', Stp G H f G' H' f' → EnvOk R G' H' e σ f' → ExR R G' x c d → W c d σ H'
  | .no => False
theorem AtO.step {R : RC} {W : WX} {m : Out EV} {G H G1 H1 : Hp} {f f1 : List Addr} {σ : L2.St} {Q : VK} (h : AtO R W m G H f σ Q) (s : Stp G H f G1 H1 f1) : AtO R W m G1 H1 f1 σ Q := by
  cases m with
  | ok a e => exact fun b G' H' f' s' => h b G' H' f' (s.trans s')
  | ex x e => exact fun c d G' H' f' s' => h c d G' H' f' (s.trans s')
  | no => exact h
def tO (R : RC) (W : WX) (F : M EV) : TE := fun σ H Q => ∃ G env f, EnvOk R G H env σ f ∧ AtO R W (F env) G H f σ Q
def DO (X : Cx) (W : WX) (e : Expr) (F : M EV) : Prop := PE X e (tO (rc X) W F)
theorem tO_bind {α β : Type} {R : RC} {W : WX} {P1 : Hp → α → β → Prop} {F : M α} {k : α → M EV} {σ : L2.St} {H : Hp} {Q : VK} {Q' : β → Hp → Prop} (h : tO R W (bnd F k) σ H Q)
    (w : ∀ G1 env1 f1 a b H1, EnvOk R G1 H1 env1 σ f1 → P1 G1 a b → AtO R W (k a env1) G1 H1 f1 σ Q → Q' b H1) : tM R W P1 F σ H Q' := by
  obtain ⟨G, env, f, e, h⟩ := h
  refine ⟨G, env, f, e, ?_⟩
  have h : AtO R W ((F env).bind k) G H f σ Q := h
  cases q : F env with
  | ok a e1 =>
    rw [q] at h
    exact fun b G' H' f' s e' p => w G' e1 f' a b H' e' p (h.step s)
  | ex x e1 => rw [q] at h; exact h
  | no => rw [q] at h; exact h
/-- plain data in own slots -/
theorem Sls.plain {R : RC} {G H : Hp} : ∀ {ds : List D} {vs : List V}, Reps R G ds vs → Sls R G H (ds.map .v) (vs.map some) []
  | [], vs, h => by
    have e : vs = [] := h
    subst e
    exact ⟨rfl, rfl⟩
  | d :: ds, vs, h => by
    obtain ⟨v, r, h1, h2, h3⟩ := h
    subst h1
    exact ⟨some v, r.map some, [], [], rfl, rfl, ⟨rfl, v, rfl, h2⟩, Sls.plain h3⟩
theorem EnvOk.ownL {R : RC} {G H : Hp} {env : List EV} {σ : L2.St} {f : List Addr} {a : Addr} {ds : List D} {vs : List V} (e : EnvOk R G H env σ f) (h : H a = some (.lst vs)) (hg : G a = none) (hf : a ∉ f) (r : Reps R G ds vs) :
    EnvOk R G H (.ol (ds.map .v) :: env) (some (.ref a) :: σ) (a :: f) :=
  ⟨e.sub, ⟨some (.ref a), σ, [a], f, rfl, rfl, ⟨a, vs, [], rfl, h, rfl, Sls.plain r⟩, e.sl⟩, List.nodup_cons.mpr ⟨hf, e.nd⟩, fun c hc => by
    rcases List.mem_cons.mp hc with z | z
    · rw [z]; exact hg
    · exact e.fr c z, e.nt, e.tb⟩
/-- what was pushed goes into slot i -/
theorem EnvOk.popInto {R : RC} {G H : Hp} {env : List EV} {σ : L2.St} {f : List Addr} {ev : EV} {v : Option V} {i : Nat} (e : EnvOk R G H (ev :: env) (v :: σ) f) (hi : i < env.length) :
    ∃ f', EnvOk R G H (env.set i ev) (σ.set i v) f' ∧ Stp G H f G H f' := by
  obtain ⟨s0, sr, f0, fr, h1, h2, h3, h4⟩ := e.sl
  cases h1
  subst h2
  obtain ⟨s0, f1, f2, f3, g1, g2, g3, g4⟩ := h4.at (show env[i]? = some env[i] by simp [hi])
  subst g2
  have nd := e.nd
  have nd2 : (f0 ++ (f1 ++ f3)).Nodup := nd.sublist (List.Sublist.append (List.Sublist.refl _) (by rw [List.append_assoc]; exact List.Sublist.append (List.Sublist.refl _) (List.sublist_append_right _ _)))
  have pm : (f1 ++ f0 ++ f3).Perm (f0 ++ (f1 ++ f3)) := by
    rw [← List.append_assoc]
    exact List.perm_append_comm.append_right f3
  have sub : ∀ c ∈ f1 ++ f0 ++ f3, c ∈ f0 ++ (f1 ++ f2 ++ f3) := fun c hc => by
    simp only [List.mem_append] at hc ⊢
    rcases hc with (z | z) | z
    · exact .inr (.inl (.inl z))
    · exact .inl z
    · exact .inr (.inr z)
  exact ⟨f1 ++ f0 ++ f3, ⟨e.sub, g4 G H ev v f0 (.refl G) (fun _ _ _ h => h) h3, pm.nodup_iff.mpr nd2, fun c hc => e.fr c (sub c hc), e.nt, e.tb⟩, Stp.less sub⟩
/-- what was pushed is dropped -/
theorem EnvOk.drop1 {R : RC} {G H : Hp} {env : List EV} {σ : L2.St} {f : List Addr} {ev : EV} {v : Option V} (e : EnvOk R G H (ev :: env) (v :: σ) f) : ∃ f', EnvOk R G H env σ f' ∧ Stp G H f G H f' := by
  obtain ⟨s0, sr, f0, fr, h1, h2, h3, h4⟩ := e.sl
  cases h1
  subst h2
  exact ⟨fr, ⟨e.sub, h4, (List.nodup_append.mp e.nd).2.1, fun c hc => e.fr c (List.mem_append_right _ hc), e.nt, e.tb⟩, Stp.less fun c hc => List.mem_append_right _ hc⟩
section
variable {X : Cx} {W : WX} {Pr : Nat → Bool} {a b c : Expr} {Fa Fb Fc : M D} {pos : Pos} {Fo : M EV}
def putE (i : Nat) (ev : EV) : List EV → Option (List EV) := fun e => if i < e.length then some (e.set i ev) else none
def setO (i : Nat) (Fo : M EV) : MS := bndS Fo fun ev e => match putE i ev e with
  | some e1 => .nx e1
  | none => .no
theorem tS_bndO {F : M EV} {k : EV → MS} {R : RC} {D : Ends} {σ : L2.St} {H : Hp} {Q : VK} (h : tS R W Pr (bndS F k) D σ H)
    (w : ∀ G1 env1 f1 ev v H1, EnvOk R G1 H1 (ev :: env1) (some v :: σ) f1 → AtS R W Pr (k ev env1) G1 H1 f1 σ D → Q v H1) : tO R W F σ H Q := by
  obtain ⟨G, env, f, e, q⟩ := h
  refine ⟨G, env, f, e, ?_⟩
  unfold bndS at q
  cases z : F env with
  | ok a e1 => rw [z] at q; exact fun b G' H' f' s' e' => w G' e1 f' a b H' e' (q.step s' (.refl σ))
  | ex x e1 => rw [z] at q; exact fun c d G' H' f' s' e' x' => q c d σ G' H' f' s' e' (.refl σ) x'
  | no => rw [z] at q; exact q
theorem putE_ok {R : RC} {G H : Hp} {env env1 : List EV} {σ : L2.St} {f : List Addr} {ev : EV} {v : Option V} {i : Nat} (e : EnvOk R G H (ev :: env) (v :: σ) f) (h : putE i ev env = some env1) : ∃ f', EnvOk R G H env1 (σ.set i v) f' ∧ Stp G H f G H f' := by
  unfold putE at h
  split at h
  · rename_i hl
    cases h
    exact e.popInto hl
  · cases h
theorem ds_setO {i : Nat} {x : Str} {pos' : Pos} (hN : X.N.Nodup) (hi : X.N[i]? = some x) (hx : Loc X.env.scope x) (hp : Pr i = false) (ha : DO X W a Fo) (hs : swapsWith a (some (.Name x pos')) pos.line X.env = pure false := by rfl)
    (hf : X.fn x = true ∨ X.env.scope.names.lookup x = some .local := by first | exact .inl rfl | exact .inr rfl | assumption) : DS X W Pr (.Assign [.Name x pos'] a pos) (setO i Fo) :=
  PS.imp (ps_set hN hi hx ha hs hf) fun D σ H h => tS_bndO h fun G1 env1 f1 ev v H1 e q => by
    cases z : putE i ev env1 with
    | none => rw [z] at q; exact q.elim
    | some e1 =>
      rw [z] at q
      obtain ⟨f', e', s'⟩ := putE_ok e z
      exact q _ G1 H1 f' s' e' (Kp.set hp)
def retO (Fo : M EV) : MS := bndS Fo fun ev e => .rt ev e
theorem ds_retO (ha : DO X W a Fo) : DS X W Pr (.Return (some a) pos) (retO Fo) := PS.imp (ps_ret ha) fun D σ H h =>
  tS_bndO h fun G1 env1 f1 ev v H1 e q => q v σ G1 H1 f1 (.refl _ _ _) e (.refl σ)
/-- [a, b, ..], one's own -/
def ownL (Fs : M (List D)) : M EV := bnd Fs fun ds e => if ds.length ≤ 16777216 then .ok (.ol (ds.map .v)) e else .no
theorem lay_own {R : RC} {G H : Hp} {env : List EV} {σ : L2.St} {f : List Addr} {ds : List D} {vs : List V} (e : EnvOk R G H env σ f) (r : Reps R G ds vs) {p : Addr} (hp : H p = none) :
    EnvOk R G (upd H p (.lst vs)) (.ol (ds.map .v) :: env) (some (.ref p) :: σ) (p :: f) := by
  have gp : G p = none := by
    cases z : G p with
    | none => rfl
    | some u => rw [e.sub _ _ z] at hp; cases hp
  have fp : p ∉ f := fun z => by
    obtain ⟨o, ho, _⟩ := e.sl.there p z
    rw [hp] at ho; cases ho
  exact (e.beside gp fp (.free hp)).ownL upd_same gp fp r
theorem do_lst {es : List Expr} {Fs : M (List D)} (h : DAs X W es Fs) : DO X W (.List es pos) (ownL Fs) := PE.imp (pe_lst h) fun σ H Q h => by
  refine tO_bind (P1 := Reps (rc X)) h fun G1 env1 f1 ds vs H1 e p q => ?_
  by_cases hz : ds.length ≤ 16777216
  · rw [if_pos hz] at q
    exact ⟨by rw [sizeLine_eq, ← p.length]; exact hz, fun a ha => q _ G1 _ _ (Stp.lay ha) (lay_own e p ha)⟩
  · rw [if_neg hz] at q
    exact q.elim
/-! ### comprehensions -/
abbrev Wno : WX := fun _ _ _ _ => False
def DTs (X : Cx) (W : WX) (ifs : List Expr) (F : M Bool) : Prop := PTs X ifs (tM (rc X) W PB F)
theorem dts_nil : DTs X W [] (fun e => .ok true e) := ⟨fun pins s σ H Q I ⟨G, env, f, e, q⟩ => pts_nil.run pins s σ H Q I (q.done e rfl)⟩
theorem dts_one {T : M Bool} (h : DT X W c T) : DTs X W [c] T := pts_one h
def lstM (F : M (List D)) : M D := bnd F fun ds e => .ok (.lst ds) e
def lstO (F : M (List D)) : M EV := bnd F fun ds e => .ok (.ol (ds.map .v)) e
theorem lc_end {R : RC} {m : Out (List D)} {G H : Hp} {f : List Addr} {σ : L2.St} {Q : VK} (q : At R W (Rep R) (m.bind fun ds e => .ok (.lst ds) e) G H f σ Q) (hx : ∀ x e, m ≠ .ex x e) : AtL R m G H f σ Q := by
  cases m with
  | no => exact q
  | ex x e => exact absurd rfl (hx x e)
  | ok ds e =>
    intro a vs G' H' f' s e' h hg hf r
    refine q (.ref a) (upd G' a (.lst vs)) H' f' (s.trans (Stp.freeze hg)) (e'.frozen hg h hf) ⟨a, vs, rfl, upd_same, r.mono ?_⟩
    exact fun c u z => by rw [upd_ne (ne_of_none z hg)]; exact z
theorem lc_endO {R : RC} {m : Out (List D)} {G H : Hp} {f : List Addr} {σ : L2.St} {Q : VK} (q : AtO R W (m.bind fun ds e => .ok (.ol (ds.map .v)) e) G H f σ Q) (hx : ∀ x e, m ≠ .ex x e) : AtL R m G H f σ Q := by
  cases m with
  | no => exact q
  | ex x e => exact absurd rfl (hx x e)
  | ok ds e =>
    intro a vs G' H' f' s e' h hg hf r
    exact q (.ref a) G' H' (a :: f') s (e'.ownL h hg hf r)
/-- the block's own slots alone may be stored in it -/
def prOf (vs : List Nat) : Nat → Bool := fun i => !vs.contains i
theorem prOf_in {vs : List Nat} {i : Nat} (h : prOf vs i = false) : i ∈ vs := by
  unfold prOf at h
  simpa using h
def lcB (vs : List Nat) (t : TgF) (T : M Bool) (Fe : M D) (ds : List D) : M (List D) := fun e0 => match lcM vs t T Fe ds [] (wipeE e0 vs) with
  | .ok acc e1 => (match backE e0 e1 vs with
    | some e2 => .ok acc e2
    | none => .no)
  | _ => .no
theorem lcB_ex {vs : List Nat} {t : TgF} {T : M Bool} {Fe : M D} {ds : List D} {e0 : List EV} : ∀ x e, lcB vs t T Fe ds e0 ≠ .ex x e := fun x e h => by
  unfold lcB at h
  split at h
  · split at h <;> cases h
  · cases h
theorem de_lc {elt tg iter : Expr} {ifs : List Expr} {scope : Scope} {own : List (Str × Nat)} {Fi : M (List D)} {t : TgF} {T : M Bool} {Fe : M D} (hc : X.calm = true) (hN : X.N.Nodup) (hi : DI X W tg iter Fi) (ok : BlkOk X.N X.env.scope scope own)
    (hg : ∀ (s : Shared) (H : Hp) (C : Addr) (cl : List (Str × Addr)) (fp : List Addr), DG (X.blk s H scope (compEnvC scope cl C X.env) fp) (prOf (own.map (·.2))) tg t)
    (ht : ∀ (s : Shared) (H : Hp) (C : Addr) (cl : List (Str × Addr)) (fp : List Addr), DTs (X.blk s H scope (compEnvC scope cl C X.env) fp) Wno ifs T)
    (he : ∀ (s : Shared) (H : Hp) (C : Addr) (cl : List (Str × Addr)) (fp : List Addr), DE (X.blk s H scope (compEnvC scope cl C X.env) fp) Wno elt Fe) (hs : ∀ x, foldedSetIterable iter X.env x = pure x := by intro _; rfl) :
    DE X W (.ListComp elt [⟨tg, iter, ifs, 0⟩] scope pos) (lstM (bnd Fi (lcB (own.map (·.2)) t T Fe))) :=
  PE.imp (pe_lc (g := tG (rc X) (prOf (own.map fun (p : Str × Nat) => p.2)) t) (tt := tM (rc X) Wno PB T) (te := tM (rc X) Wno (Rep (rc X)) Fe) hc hN hi ok hg ht he hs) fun σ H Q h => by
    have h : tM (rc X) W (Rep (rc X)) (bnd Fi fun ds e => (lcB (own.map (·.2)) t T Fe ds e).bind fun ds e => .ok (.lst ds) e) σ H Q := by
      obtain ⟨G, env, f, e, q⟩ := h
      refine ⟨G, env, f, e, ?_⟩
      have q : At (rc X) W (Rep (rc X)) (((Fi env).bind (lcB (own.map (·.2)) t T Fe)).bind fun ds e => .ok (.lst ds) e) G H f σ Q := q
      show At (rc X) W (Rep (rc X)) ((Fi env).bind fun ds e => (lcB (own.map (·.2)) t T Fe ds e).bind fun ds e => .ok (.lst ds) e) G H f σ Q
      cases z : Fi env with
      | ok a e => rw [z] at q; exact q
      | ex x e => rw [z] at q; exact q
      | no => rw [z] at q; exact q
    refine tM_then (P1 := fun G ds (J : It) => Walk (rc X) G J ds) h fun G1 env1 f1 ds J H1 e w q => fun D hD => ?_
    exact lc_read (R := rc X) e w (fun i => prOf_in) (lc_end q lcB_ex) hD
theorem do_lc {elt tg iter : Expr} {ifs : List Expr} {scope : Scope} {own : List (Str × Nat)} {Fi : M (List D)} {t : TgF} {T : M Bool} {Fe : M D} (hc : X.calm = true) (hN : X.N.Nodup) (hi : DI X W tg iter Fi) (ok : BlkOk X.N X.env.scope scope own)
    (hg : ∀ (s : Shared) (H : Hp) (C : Addr) (cl : List (Str × Addr)) (fp : List Addr), DG (X.blk s H scope (compEnvC scope cl C X.env) fp) (prOf (own.map (·.2))) tg t)
    (ht : ∀ (s : Shared) (H : Hp) (C : Addr) (cl : List (Str × Addr)) (fp : List Addr), DTs (X.blk s H scope (compEnvC scope cl C X.env) fp) Wno ifs T)
    (he : ∀ (s : Shared) (H : Hp) (C : Addr) (cl : List (Str × Addr)) (fp : List Addr), DE (X.blk s H scope (compEnvC scope cl C X.env) fp) Wno elt Fe) (hs : ∀ x, foldedSetIterable iter X.env x = pure x := by intro _; rfl) :
    DO X W (.ListComp elt [⟨tg, iter, ifs, 0⟩] scope pos) (lstO (bnd Fi (lcB (own.map (·.2)) t T Fe))) :=
  PE.imp (pe_lc (g := tG (rc X) (prOf (own.map fun (p : Str × Nat) => p.2)) t) (tt := tM (rc X) Wno PB T) (te := tM (rc X) Wno (Rep (rc X)) Fe) hc hN hi ok hg ht he hs) fun σ H Q h => by
    have h : tO (rc X) W (bnd Fi fun ds e => (lcB (own.map (·.2)) t T Fe ds e).bind fun ds e => .ok (.ol (ds.map .v)) e) σ H Q := by
      obtain ⟨G, env, f, e, q⟩ := h
      refine ⟨G, env, f, e, ?_⟩
      have q : AtO (rc X) W (((Fi env).bind (lcB (own.map (·.2)) t T Fe)).bind fun ds e => .ok (.ol (ds.map .v)) e) G H f σ Q := q
      show AtO (rc X) W ((Fi env).bind fun ds e => (lcB (own.map (·.2)) t T Fe ds e).bind fun ds e => .ok (.ol (ds.map .v)) e) G H f σ Q
      cases z : Fi env with
      | ok a e => rw [z] at q; exact q
      | ex x e => rw [z] at q; exact q
      | no => rw [z] at q; exact q
    refine tO_bind (P1 := fun G ds (J : It) => Walk (rc X) G J ds) h fun G1 env1 f1 ds J H1 e w q => fun D hD => ?_
    exact lc_read (R := rc X) e w (fun i => prOf_in) (lc_endO q lcB_ex) hD
end
end DL

namespace DL
open PySem PySem.Spec PyProof.Rows L2
variable [LT]

/-! ### what a def promises -/
def AtF (R : RC) (m : Out EV) (G H : Hp) (f : List Addr) (vs : List V) (Q : VK) (E : XK) : Prop :=
  match m with
  | .ok r outs => ∀ v G' H' f', Stp G H f G' H' f' → EnvOk R G' H' (r :: outs) (some v :: vs.map some) f' → Q v H'
  | .ex x outs => ∀ c d G' H' f', Stp G H f G' H' f' → EnvOk R G' H' outs (vs.map some) f' → ExR R G' x c d → E c d H'
  | .no => False
def spD (R : RC) (n : Nat) (S : List EV → Out EV) : Sp := fun vs H Q E => vs.length = n ∧ ∃ G args f, EnvOk R G H args (vs.map some) f ∧ AtF R (S args) G H f vs Q E
/-- a def, run where no guard stands -/
structure FnG (P : Program) (w : World) (K : PySem.W.Frag) (mg : Str → Option Value) (base : Heap) (k : Nat) (f : Addr) (fd : FuncData) (ps : List Str) (S : List EV → Out EV) : Prop where
  run : ∀ (A : Around) (outer : List Env) (s : Shared) (H : Hp) (args : Args) (us : List Value) (vs : List V) (Q : VK) (E : XK), A.guards = some [] → Room k A → Env0 P w K mg base A outer s H → BindsTo s fd args (ps.zip us) → Vals vs us →
    spD ⟨K, mg, LT.tf K⟩ ps.length S vs H Q E → codeAny (model P w) A (.call (.ref f) args) (CR (CX P w) outer P w H s Q E) s
theorem FnG.mono {P : Program} {w : World} {K : PySem.W.Frag} {mg : Str → Option Value} {base : Heap} {j k : Nat} {f : Addr} {fd : FuncData} {ps : List Str} {S : List EV → Out EV} (F : FnG P w K mg base j f fd ps S) (h : j ≤ k) : FnG P w K mg base k f fd ps S :=
  ⟨fun A outer s H args us vs Q E hg hr => F.run A outer s H args us vs Q E hg (hr.mono h)⟩
/-- the values of the parameters that must be own, behind the body -/
def outs (Pr : Nat → Bool) : Nat → Nat → List EV → List EV
  | _, 0, _ => []
  | i, n + 1, [] => .un :: outs Pr (i + 1) n []
  | i, n + 1, e :: es => (if Pr i then e else .un) :: outs Pr (i + 1) n es
theorem outs_sl {R : RC} {G H : Hp} {Pr : Nat → Bool} : ∀ (vs : List V) (i : Nat) (e : List EV) (σ : L2.St) (f : List Addr), Sls R G H e σ f → (∀ j, Pr (i + j) = true → j < vs.length → σ[j]? = (vs.map some)[j]?) →
    ∃ f', Sls R G H (outs Pr i vs.length e) (vs.map some) f' ∧ f'.Sublist f
  | [], i, e, σ, f, h, k => ⟨[], by unfold outs; exact ⟨rfl, rfl⟩, List.nil_sublist _⟩
  | v :: vs, i, [], σ, f, h, k => by
    have e : σ = [] := h.1
    subst e
    obtain ⟨f', h1, h2⟩ := outs_sl vs (i + 1) [] [] f h fun j hj hl => by
      have := k (j + 1) (by rw [show i + (j + 1) = i + 1 + j by omega]; exact hj) (by simpa using hl)
      simpa using this
    exact ⟨f', ⟨some v, vs.map some, [], f', rfl, rfl, rfl, h1⟩, h2⟩
  | v :: vs, i, e :: es, σ, f, h, k => by
    obtain ⟨s0, sr, f0, fr, h1, h2, h3, h4⟩ := h
    subst h1 h2
    obtain ⟨f', g1, g2⟩ := outs_sl vs (i + 1) es sr fr h4 fun j hj hl => by
      have := k (j + 1) (by rw [show i + (j + 1) = i + 1 + j by omega]; exact hj) (by simpa using hl)
      simpa using this
    cases hp : Pr i with
    | false =>
      refine ⟨f', ?_, g2.trans (List.sublist_append_right _ _)⟩
      simp only [List.length_cons, outs, hp]
      exact ⟨some v, vs.map some, [], f', rfl, rfl, rfl, g1⟩
    | true =>
      have e0 := k 0 hp (by simp)
      simp only [List.getElem?_cons_zero, List.map_cons, Option.some.injEq] at e0
      subst e0
      refine ⟨f0 ++ f', ?_, List.Sublist.append (List.Sublist.refl _) g2⟩
      simp only [List.length_cons, outs, hp, if_true]
      exact ⟨some v, vs.map some, f0, f', rfl, rfl, h3, g1⟩
def fnS (n N : Nat) (Pr : Nat → Bool) (B : MS) : List EV → Out EV := fun args => match B (args ++ List.replicate (N - n) .un) with
  | .nx e => .ok (.v .non) (outs Pr 0 n e)
  | .rt r e => .ok r (outs Pr 0 n e)
  | .ex x e => .ex x (outs Pr 0 n e)
  | _ => .no
theorem Sls.more {R : RC} {G H : Hp} : ∀ {es : List EV} {s : L2.St} {f : List Addr} (n : Nat), Sls R G H es s f → Sls R G H (es ++ List.replicate n .un) (s ++ List.replicate n none) f
  | [], s, f, n, h => by
    have e1 : s = [] := h.1
    have e2 : f = [] := h.2
    subst e1 e2
    induction n with
    | zero => exact h
    | succ n ih => exact ⟨none, List.replicate n none, [], [], rfl, rfl, rfl, ih⟩
  | e :: es, s, f, n, h => by
    obtain ⟨s0, sr, f0, fr, h1, h2, h3, h4⟩ := h
    subst h1 h2
    exact ⟨s0, _, f0, fr, rfl, rfl, h3, Sls.more n h4⟩
theorem stp_sub {G H : Hp} {f f' : List Addr} (h : f'.Sublist f) : Stp G H f G H f' := Stp.less fun a ha => h.subset ha
theorem EnvOk.outs {R : RC} {G H : Hp} {Pr : Nat → Bool} {N : List Str} {vs : List V} {e : List EV} {σ : L2.St} {f : List Addr} (h : EnvOk R G H e σ f) (k : Kp Pr (L2.start N vs) σ) : ∃ f', EnvOk R G H (DL.outs Pr 0 vs.length e) (vs.map some) f' ∧ Stp G H f G H f' := by
  obtain ⟨f', h1, h2⟩ := outs_sl vs 0 e σ f h.sl fun j hj hl => by
    rw [k.2 j (by simpa using hj)]
    unfold L2.start
    rw [List.getElem?_append_left (by simpa using hl)]
  exact ⟨f', ⟨h.sub, h1, h.nd.sublist h2, fun a ha => h.fr a (h2.subset ha), h.nt, h.tb⟩, stp_sub h2⟩
theorem EnvOk.outs1 {R : RC} {G H : Hp} {Pr : Nat → Bool} {N : List Str} {vs : List V} {e : List EV} {σ : L2.St} {f : List Addr} {r : EV} {v : V} (h : EnvOk R G H (r :: e) (some v :: σ) f) (k : Kp Pr (L2.start N vs) σ) :
    ∃ f', EnvOk R G H (r :: DL.outs Pr 0 vs.length e) (some v :: vs.map some) f' ∧ Stp G H f G H f' := by
  obtain ⟨s0, sr, f0, fr, h1, h2, h3, h4⟩ := h.sl
  cases h1
  subst h2
  obtain ⟨f', g1, g2⟩ := outs_sl vs 0 e σ fr h4 fun j hj hl => by
    rw [k.2 j (by simpa using hj)]
    unfold L2.start
    rw [List.getElem?_append_left (by simpa using hl)]
  have sb : (f0 ++ f').Sublist (f0 ++ fr) := List.Sublist.append (List.Sublist.refl _) g2
  exact ⟨f0 ++ f', ⟨h.sub, ⟨some v, vs.map some, f0, f', rfl, rfl, h3, g1⟩, h.nd.sublist sb, fun a ha => h.fr a (sb.subset ha), h.nt, h.tb⟩, stp_sub sb⟩
/-- what a def lets out, as its body's wish -/
abbrev WofE (E : XK) : WX := fun c d _ H => E c d H
/-- from the body -/
theorem body_read {R : RC} {Pr : Nat → Bool} {N : List Str} {n : Nat} {B : MS} {vs : List V} {H : Hp} {Q : VK} {E : XK} (hn : n ≤ N.length) (h : spD R n (fnS n N.length Pr B) vs H Q E) : tS R (WofE E) Pr B { nx := fun _ H' => Q .non H', rt := Q } (L2.start N vs) H := by
  obtain ⟨hl, G, args, f, e, q⟩ := h
  subst hl
  have ha : args.length = vs.length := by rw [e.sl.length, List.length_map]
  refine ⟨G, args ++ List.replicate (N.length - vs.length) .un, f, ⟨e.sub, e.sl.more _, e.nd, e.fr, e.nt, e.tb⟩, ?_⟩
  unfold fnS at q
  cases z : B (args ++ List.replicate (N.length - vs.length) .un) with
  | nx e1 =>
    rw [z] at q
    intro σ' G' H' f' s' e' k'
    obtain ⟨f2, e2, s2⟩ := (e'.push (d := .non) (v := .non) rfl).outs1 (N := N) (vs := vs) k'
    exact q .non G' H' f2 (s'.trans s2) e2
  | rt r e1 =>
    rw [z] at q
    intro v σ' G' H' f' s' e' k'
    obtain ⟨f2, e2, s2⟩ := e'.outs1 (N := N) (vs := vs) k'
    exact q v G' H' f2 (s'.trans s2) e2
  | ex x e1 =>
    rw [z] at q
    intro c d σ' G' H' f' s' e' k' x'
    obtain ⟨f2, e2, s2⟩ := e'.outs (N := N) (vs := vs) k'
    exact q c d G' H' f2 (s'.trans s2) e2 x'
  | bk e1 => rw [z] at q; exact q.elim
  | ct e1 => rw [z] at q; exact q.elim
  | no => rw [z] at q; exact q.elim
section
variable {P : Program} {w : World} {K : PySem.W.Frag} {mg : Str → Option Value} {base : Heap}
/-- a def of the text by its body -/
theorem fnG_of {x qual : Str} {params : Arguments} {body : List Stmt} {scope : Scope} {dvs : List V} {kws : List (Str × V)} {f : Addr} {fd : FuncData} {N ps : List Str} {k : Nat} {Pr : Nat → Bool} {B : MS} (F : FunD K x qual params body scope dvs kws f fd) (S : FnScope N ps scope) (hn : ps.length ≤ N.length)
    (hb : ∀ (cdv : Value) (A : Around) (outer : List Env) (s : Shared) (H : Hp) (E : XK), A.guards = some [] → Room k (A.deeper (envOfC qual scope s.heap.objs.size f cdv)) → DSs (cxOf (CX P w) P w K mg base N qual scope f cdv A outer s H E) (WofE E) Pr body B) :
    FnG P w K mg base (k + 1) f fd ps (fnS ps.length N.length Pr B) := by
  obtain ⟨oc, od, dV, kV, doc, pm, an, cdv, ct, osl, rfl, lk, hcd, _, _⟩ := F.ex
  constructor
  intro A outer s H args us vs Q E hg hr e0 hbd r hsp
  have hlen : vs.length = ps.length := hsp.1
  have inS : K.In s.heap := e0.mod.kin.keeps (fun b o e => (e0.bs b o e).1)
  have noL : s.heap.NoLimit := e0.mod.nolimit.keeps (fun b o e => (e0.bs b o e).1)
  have kinds : ∀ y ∈ ps.zip us, scope.names.lookup y.1 = some .local ∨ (scope.names.lookup y.1 = some .cell ∧ ((cellsFrom (s.heap.objs.size + 1) scope.names []).lookup y.1).isSome = true) := by
    rintro ⟨y, v⟩ hy
    rcases S.par y (List.of_mem_zip hy).1 with q | q
    · exact Or.inl q
    · exact Or.inr ⟨q, PySem.W.cellsFrom_some _ _ _ (Or.inl q)⟩
  refine codeAny_call_function hr.depth (inS _ _ lk) rfl S.co S.gen rfl (PySem.W.codeRec_of inS hcd) (hbd _ _ _ _ ?_)
  refine wpAny_newFunctionEnv_cells S.kind kinds ?_
  rintro env rfl s1 xx
  refine ⟨noL.keeps xx.toInCall.keep, codeAny_func ?_⟩
  have I0 := inv_start (CX := CX P w) (E := E) S hr.hd e0 hlen r xx
  refine wpAny_mono ((hb cdv A outer s H E hg (hr.deeper _)).run [] s1 (L2.start N vs) H _ I0 (body_read hn hsp)) ?_ (fun _ _ z => z)
  intro fl s' hs
  cases fl with
  | ret u =>
    obtain ⟨v, σ', H', J, rv, q⟩ := hs
    exact ⟨v, H', J.os, J.bare, J.base, J.hok, rv, q⟩
  | next =>
    obtain ⟨σ', H', J, q⟩ := hs
    exact ⟨V.non, H', J.os, J.bare, J.base, J.hok, rfl, q⟩
  | brk => obtain ⟨_, _, _, q⟩ := hs; exact q.elim
  | cont => obtain ⟨_, _, _, q⟩ := hs; exact q.elim
end
end DL

namespace DL
open PySem PySem.Spec PyProof.Rows L2
variable [LT]

/-! ### arguments: plain data, or a slot's own thing -/
inductive Arg where
  | d (d : D) | io (i : Nat)
def isOwn : EV → Bool
  | .ol _ => true
  | .oi _ _ _ => true
  | .od _ _ _ => true
  | _ => false
def ArgsR (R : RC) (σ : L2.St) (G : Hp) : List Arg → List V → Prop
  | [], vs => vs = []
  | .d d :: r, vs => ∃ v w, vs = v :: w ∧ Rep R G d v ∧ ArgsR R σ G r w
  | .io i :: r, vs => ∃ v w, vs = v :: w ∧ σ[i]? = some (some v) ∧ ArgsR R σ G r w
theorem ArgsR.mono {R : RC} {σ : L2.St} {G G' : Hp} (s : Sub G G') : ∀ {as : List Arg} {vs : List V}, ArgsR R σ G as vs → ArgsR R σ G' as vs
  | [], _, h => h
  | .d d :: r, vs, h => by
    obtain ⟨v, w, h1, h2, h3⟩ := h
    exact ⟨v, w, h1, h2.mono s, h3.mono s⟩
  | .io i :: r, vs, h => by
    obtain ⟨v, w, h1, h2, h3⟩ := h
    exact ⟨v, w, h1, h2, h3.mono s⟩
theorem ArgsR.plain {R : RC} {σ : L2.St} {G : Hp} : ∀ {ds : List D} {vs : List V}, Reps R G ds vs → ArgsR R σ G (ds.map .d) vs
  | [], _, h => h
  | d :: ds, vs, h => by
    obtain ⟨v, r, h1, h2, h3⟩ := h
    exact ⟨v, r, h1, h2, ArgsR.plain h3⟩
theorem ArgsR.append {R : RC} {σ : L2.St} {G : Hp} : ∀ {as bs : List Arg} {vs ws : List V}, ArgsR R σ G as vs → ArgsR R σ G bs ws → ArgsR R σ G (as ++ bs) (vs ++ ws)
  | [], _, vs, _, h, h' => by rw [show vs = [] from h]; exact h'
  | .d d :: r, bs, vs, ws, h, h' => by
    obtain ⟨v, w, h1, h2, h3⟩ := h
    exact ⟨v, w ++ ws, by rw [h1]; rfl, h2, h3.append h'⟩
  | .io d :: r, bs, vs, ws, h, h' => by
    obtain ⟨v, w, h1, h2, h3⟩ := h
    exact ⟨v, w ++ ws, by rw [h1]; rfl, h2, h3.append h'⟩
/-- the arguments as they go into the callee, and what is left -/
def takeA : List Arg → List EV → Option (List EV × List EV)
  | [], e => some ([], e)
  | .d d :: r, e => (takeA r e).map fun p => (.v d :: p.1, p.2)
  | .io i :: r, e => match e[i]? with
    | some ev => if isOwn ev then (takeA r (e.set i .un)).map fun p => (ev :: p.1, p.2) else none
    | none => none
/-- .. and back -/
def putA : List Arg → List EV → List EV → Option (List EV)
  | [], _, e => some e
  | .d _ :: r, _ :: os, e => putA r os e
  | .io i :: r, o :: os, e => if i < e.length then putA r os (e.set i o) else none
  | _, _, _ => none
theorem takeA_ok {R : RC} {G H : Hp} {σ : L2.St} (sb : Sub G H) : ∀ {as : List Arg} {vs : List V} {e es e' : List EV} {f : List Addr}, Sls R G H e σ f → ArgsR R σ G as vs → takeA as e = some (es, e') →
    ∃ fa fe, Sls R G H e' σ fe ∧ Sls R G H es (vs.map some) fa ∧ (fa ++ fe).Perm f
  | [], vs, e, es, e', f, h, a, t => by
    cases t
    rw [show vs = [] from a]
    exact ⟨[], f, h, ⟨rfl, rfl⟩, .refl _⟩
  | .d d :: r, vs, e, es, e', f, h, a, t => by
    obtain ⟨v, w, rfl, a2, a3⟩ := a
    obtain ⟨p, t1, t2⟩ := Option.map_eq_some_iff.mp (show (takeA r e).map _ = some (es, e') from t)
    cases t2
    obtain ⟨fa, fe, g1, g2, g3⟩ := takeA_ok sb h a3 t1
    exact ⟨fa, fe, g1, ⟨some v, w.map some, [], fa, rfl, rfl, ⟨rfl, v, rfl, a2⟩, g2⟩, g3⟩
  | .io i :: r, vs, e, es, e', f, h, a, t => by
    obtain ⟨v, w, rfl, a2, a3⟩ := a
    cases z : e[i]? with
    | none => simp only [takeA, z] at t; cases t
    | some ev =>
      simp only [takeA, z] at t
      by_cases ho : isOwn ev = true
      · rw [if_pos ho] at t
        obtain ⟨p, t1, t2⟩ := Option.map_eq_some_iff.mp t
        cases t2
        obtain ⟨s0, f1, f2, f3, h1, h2, h3, h4⟩ := h.at z
        rw [a2] at h1
        cases h1
        have hset := h4 G H .un (some v) [] (.refl G) (fun _ _ _ h => h) rfl
        have hσ : σ.set i (some v) = σ := by
          apply List.ext_getElem?
          intro j
          by_cases hj : j = i
          · subst hj
            rw [List.getElem?_set_self (List.getElem?_eq_some_iff.mp a2).1, a2]
          · rw [List.getElem?_set_ne (Ne.symm hj)]
        rw [hσ] at hset
        obtain ⟨fa, fe, g1, g2, g3⟩ := takeA_ok sb hset a3 t1
        refine ⟨f2 ++ fa, fe, g1, ⟨some v, w.map some, f2, fa, rfl, rfl, h3, g2⟩, ?_⟩
        subst h2
        rw [List.append_assoc]
        refine (List.Perm.append_left f2 g3).trans ?_
        rw [List.append_nil, ← List.append_assoc]
        exact List.perm_append_comm.append_right f3
      · rw [if_neg ho] at t
        cases t
theorem putA_ok {R : RC} {G H : Hp} {σ : L2.St} : ∀ {as : List Arg} {vs : List V} {os e e' : List EV} {fo fe : List Addr}, Sls R G H e σ fe → Sls R G H os (vs.map some) fo → ArgsR R σ G as vs → (fo ++ fe).Nodup → putA as os e = some e' →
    ∃ f', Sls R G H e' σ f' ∧ f'.Nodup ∧ ∀ a ∈ f', a ∈ fo ∨ a ∈ fe
  | [], vs, os, e, e', fo, fe, h, g, a, nd, t => by
    cases t
    exact ⟨fe, h, (List.nodup_append.mp nd).2.1, fun a ha => .inr ha⟩
  | .d d :: r, vs, [], e, e', fo, fe, h, g, a, nd, t => by cases t
  | .io i :: r, vs, [], e, e', fo, fe, h, g, a, nd, t => by cases t
  | .d d :: r, vs, o :: os, e, e', fo, fe, h, g, a, nd, t => by
    obtain ⟨v, w, rfl, a2, a3⟩ := a
    obtain ⟨s0, sr, f0, fr, g1, g2, g3, g4⟩ := g
    cases g1
    subst g2
    have nd2 : (fr ++ fe).Nodup := nd.sublist (by rw [List.append_assoc]; exact List.sublist_append_right _ _)
    obtain ⟨f', k1, k2, k3⟩ := putA_ok h g4 a3 nd2 t
    exact ⟨f', k1, k2, fun a ha => (k3 a ha).imp (fun z => List.mem_append_right _ z) id⟩
  | .io i :: r, vs, o :: os, e, e', fo, fe, h, g, a, nd, t => by
    obtain ⟨v, w, rfl, a2, a3⟩ := a
    obtain ⟨s0, sr, f0, fr, g1, g2, g3, g4⟩ := g
    cases g1
    subst g2
    by_cases hi : i < e.length
    · simp only [putA, if_pos hi] at t
      obtain ⟨s0, f1, f2, f3, h1, h2, h3, h4⟩ := h.at (show e[i]? = some e[i] by simp [hi])
      rw [a2] at h1
      cases h1
      have hset := h4 G H o (some v) f0 (.refl G) (fun _ _ _ h => h) g3
      have hσ : σ.set i (some v) = σ := by
        apply List.ext_getElem?
        intro j
        by_cases hj : j = i
        · subst hj
          rw [List.getElem?_set_self (List.getElem?_eq_some_iff.mp a2).1, a2]
        · rw [List.getElem?_set_ne (Ne.symm hj)]
      rw [hσ] at hset
      subst h2
      have pm : (fr ++ (f1 ++ f0 ++ f3)).Perm (f0 ++ (fr ++ (f1 ++ f3))) := by
        have p1 : (f1 ++ f0 ++ f3).Perm (f0 ++ (f1 ++ f3)) := by
          rw [← List.append_assoc]
          exact List.perm_append_comm.append_right f3
        exact (List.Perm.append_left fr p1).trans (List.perm_append_comm_assoc _ _ _)
      have nd2 : (fr ++ (f1 ++ f0 ++ f3)).Nodup := by
        refine pm.nodup_iff.mpr (nd.sublist ?_)
        rw [List.append_assoc]
        refine List.Sublist.append (List.Sublist.refl _) (List.Sublist.append (List.Sublist.refl _) ?_)
        rw [List.append_assoc]
        exact List.Sublist.append (List.Sublist.refl _) (List.sublist_append_right _ _)
      obtain ⟨f', k1, k2, k3⟩ := putA_ok hset g4 a3 nd2 t
      refine ⟨f', k1, k2, fun a ha => ?_⟩
      rcases k3 a ha with z | z
      · exact .inl (List.mem_append_right _ z)
      · simp only [List.mem_append] at z ⊢
        rcases z with (z | z) | z
        · exact .inr (.inl (.inl z))
        · exact .inl (.inl z)
        · exact .inr (.inr z)
    · simp only [putA, if_neg hi] at t
      cases t
/-- the meaning of a call -/
def callA (S : List EV → Out EV) (as : List Arg) : M EV := fun e => match takeA as e with
  | none => .no
  | some (es, e1) => match S es with
    | .ok r os => (match putA as os e1 with
      | some e2 => .ok r e2
      | none => .no)
    | .ex x os => (match putA as os e1 with
      | some e2 => .ex x e2
      | none => .no)
    | .no => .no
/-- from the caller's slots to the promise -/
theorem call_read {R : RC} {W : WX} {S : List EV → Out EV} {as : List Arg} {vs : List V} {G H : Hp} {e : List EV} {σ : L2.St} {f : List Addr} {Q : VK} {n : Nat} (ev : EnvOk R G H e σ f) (a : ArgsR R σ G as vs) (hn : vs.length = n) (q : AtO R W (callA S as e) G H f σ Q) : spD R n S vs H Q (fun c d H => W c d σ H) := by
  refine ⟨hn, ?_⟩
  unfold callA at q
  cases z : takeA as e with
  | none => rw [z] at q; exact q.elim
  | some p =>
    obtain ⟨es, e1⟩ := p
    rw [z] at q
    dsimp only at q
    obtain ⟨fa, fe, g1, g2, g3⟩ := takeA_ok ev.sub ev.sl a z
    have ndf := g3.nodup_iff.mpr ev.nd
    have memf : ∀ c, c ∈ fa ++ fe ↔ c ∈ f := fun c => g3.mem_iff
    refine ⟨G, es, fa, ⟨ev.sub, g2, (List.nodup_append.mp ndf).1, fun c hc => ev.fr c ((memf c).mp (List.mem_append_left _ hc)), ev.nt, ev.tb⟩, ?_⟩
    -- what stays of the caller
    have stay : ∀ {G' H' : Hp} {f' : List Addr}, Stp G H fa G' H' f' → Sls R G' H' e1 σ fe ∧ (∀ c ∈ fe, G' c = none) ∧ (∀ c ∈ f', c ∉ fe) ∧ (∀ c, c ∈ fe → ∃ o, H' c = some o) := fun {G' H' f'} s => by
      have dis : ∀ c, c ∈ fe → c ∉ fa := fun c hc hca => (List.nodup_append.mp ndf).2.2 c hca c hc rfl
      refine ⟨g1.keep s.sub (fun c hc o h => by
        obtain ⟨u, hu, nt, _⟩ := g1.there c hc
        rw [hu] at h; cases h
        exact s.keep c o hu (dis c hc) nt), fun c hc => ?_, fun c hc hce => ?_, fun c hc => ?_⟩
      · cases q : G' c with
        | none => rfl
        | some o =>
          obtain ⟨u, hu, hnt, _⟩ := g1.there c hc
          rcases s.grow c o q with z | z | z
          · rw [ev.fr c ((memf c).mp (List.mem_append_right _ hc))] at z; cases z
          · exact (z.not hu hnt).elim
          · exact absurd z (dis c hc)
      · obtain ⟨u, hu, hnt, _⟩ := g1.there c hce
        rcases s.own c hc with z | z
        · exact dis c hce z
        · exact z.not hu hnt
      · obtain ⟨u, hu, hnt, _⟩ := g1.there c hc
        exact ⟨u, s.keep c u hu (dis c hc) hnt⟩
    have wide : ∀ {G' H' : Hp} {f' f2 : List Addr}, Stp G H fa G' H' f' → (∀ c ∈ f2, c ∈ f' ∨ c ∈ fe) → Stp G H f G' H' f2 := fun {G' H' f' f2} s hs =>
      ⟨s.sub, fun c o h hc => s.keep c o h fun z => hc ((memf c).mp (List.mem_append_left _ z)), fun c o h => (s.grow c o h).imp id (Or.imp id fun z => (memf c).mp (List.mem_append_left _ z)), fun c hc => by
        rcases hs c hc with z | z
        · exact (s.own c z).imp (fun z => (memf c).mp (List.mem_append_left _ z)) id
        · exact .inl ((memf c).mp (List.mem_append_right _ z))⟩
    cases zs : S es with
    | no => rw [zs] at q; exact q.elim
    | ok r os =>
      rw [zs] at q
      dsimp only at q
      intro v G' H' f' s k
      cases zp : putA as os e1 with
      | none => rw [zp] at q; exact q.elim
      | some e2 =>
        rw [zp] at q
        obtain ⟨t1, t2, t3, t4⟩ := stay s
        obtain ⟨s0, sr, f0, fr, k1, k2, k3, k4⟩ := k.sl
        cases k1
        subst k2
        have ndk := k.nd
        have nd2 : (fr ++ fe).Nodup := List.nodup_append.mpr ⟨(List.nodup_append.mp ndk).2.1, (List.nodup_append.mp ndf).2.1, fun x hx y hy hxy => t3 x (List.mem_append_right _ hx) (hxy ▸ hy)⟩
        obtain ⟨f2, u1, u2, u3⟩ := putA_ok t1 k4 (a.mono s.sub) nd2 zp
        refine q v G' H' (f0 ++ f2) (wide s fun c hc => ?_) ⟨k.sub, ⟨some v, σ, f0, f2, rfl, rfl, k3, u1⟩, ?_, fun c hc => ?_, k.nt, k.tb⟩
        · rcases List.mem_append.mp hc with z | z
          · exact .inl (List.mem_append_left _ z)
          · exact (u3 c z).imp (fun z => List.mem_append_right _ z) id
        · refine List.nodup_append.mpr ⟨(List.nodup_append.mp ndk).1, u2, fun x hx y hy hxy => ?_⟩
          subst hxy
          rcases u3 x hy with z | z
          · exact (List.nodup_append.mp ndk).2.2 x hx x z rfl
          · exact t3 x (List.mem_append_left _ hx) z
        · rcases List.mem_append.mp hc with z | z
          · exact k.fr c (List.mem_append_left _ z)
          · rcases u3 c z with z | z
            · exact k.fr c (List.mem_append_right _ z)
            · exact t2 c z
    | ex x os =>
      rw [zs] at q
      dsimp only at q
      intro c d G' H' f' s k xr
      cases zp : putA as os e1 with
      | none => rw [zp] at q; exact q.elim
      | some e2 =>
        rw [zp] at q
        obtain ⟨t1, t2, t3, t4⟩ := stay s
        have nd2 : (f' ++ fe).Nodup := List.nodup_append.mpr ⟨k.nd, (List.nodup_append.mp ndf).2.1, fun x hx y hy hxy => t3 x hx (hxy ▸ hy)⟩
        obtain ⟨f2, u1, u2, u3⟩ := putA_ok t1 k.sl (a.mono s.sub) nd2 zp
        refine q c d G' H' f2 (wide s u3) ⟨k.sub, u1, u2, fun c hc => ?_, k.nt, k.tb⟩ xr
        rcases u3 c hc with z | z
        · exact k.fr c z
        · exact t2 c z
end DL

namespace DL
open PySem PySem.Spec PyProof.Rows L2
variable [LT]

/-! ### own things given up: plain data from then on -/
mutual
def toD : EV → Option D
  | .un => none
  | .v d => some d
  | .ol xs => (toDs xs).map .lst
  | .oi c fn fv => (toDs fv).map (.ins c fn)
  | .od _ _ _ => none
def toDs : List EV → Option (List D)
  | [] => some []
  | e :: es => match toD e, toDs es with
    | some d, some ds => some (d :: ds)
    | _, _ => none
end
theorem toDs_v : ∀ ds : List D, toDs (ds.map .v) = some ds
  | [] => rfl
  | d :: ds => by simp only [List.map_cons, toDs, toD, toDs_v ds]
/-- the frozen part with more in it -/
def frz (G H : Hp) (f : List Addr) : Hp := fun a => if a ∈ f then H a else G a
theorem frz_sub {G H : Hp} {f : List Addr} (h : ∀ a ∈ f, G a = none) : Sub G (frz G H f) := fun a o e => by
  unfold frz
  by_cases z : a ∈ f
  · rw [h a z] at e; cases e
  · rw [if_neg z]; exact e
theorem frz_mono {G H : Hp} {f f' : List Addr} (s : Sub G H) (h : ∀ a ∈ f, a ∈ f') : Sub (frz G H f) (frz G H f') := fun a o e => by
  unfold frz at e ⊢
  by_cases z' : a ∈ f'
  · rw [if_pos z']
    by_cases z : a ∈ f
    · rw [if_pos z] at e; exact e
    · rw [if_neg z] at e; exact s _ _ e
  · rw [if_neg z']
    rw [if_neg (fun z => z' (h a z))] at e; exact e
mutual
theorem Sl.toD {R : RC} {G H : Hp} (s : Sub G H) : ∀ {ev : EV} {v : V} {f : List Addr} {d : D}, Sl R G H ev (some v) f → (∀ a ∈ f, G a = none) → DL.toD ev = some d → Rep R (frz G H f) d v
  | .un, _, _, _, _, _, t => by cases t
  | .v d', v, f, d, h, g, t => by
    cases t
    obtain ⟨h1, w, h2, h3⟩ := h
    cases h2
    exact h3.mono (frz_sub g)
  | .ol xs, v, f, d, h, g, t => by
    obtain ⟨ds, t1, t2⟩ := Option.map_eq_some_iff.mp (show (toDs xs).map D.lst = some d from t)
    subst t2
    obtain ⟨a, vs, f', h1, h2, h3, h4⟩ := h
    cases h1
    subst h3
    have r := Sls.toDs s h4 (fun c hc => g c (List.mem_cons_of_mem _ hc)) t1
    refine ⟨a, vs, rfl, ?_, r.mono (frz_mono s fun c hc => List.mem_cons_of_mem _ hc)⟩
    unfold frz
    rw [if_pos (List.mem_cons_self ..)]
    exact h2
  | .oi c fn fv, v, f, d, h, g, t => by
    obtain ⟨ds, t1, t2⟩ := Option.map_eq_some_iff.mp (show (toDs fv).map (D.ins c fn) = some d from t)
    subst t2
    obtain ⟨a, dx, C, fs, f', h1, h2, h3, h4, h5, h6⟩ := h
    cases h1
    subst h5
    have r := Sls.toDs (vs := fs.map (·.2)) s (by rw [List.map_map]; exact h6) (fun c hc => g c (List.mem_cons_of_mem _ hc)) t1
    refine ⟨a, dx, C, fs, rfl, h2, ?_, h4, r.mono (frz_mono s fun c hc => List.mem_cons_of_mem _ hc)⟩
    unfold frz
    rw [if_pos (List.mem_cons_self ..)]
    exact h3
  | .od _ _ _, _, _, _, _, _, t => by cases t
theorem Sls.toDs {R : RC} {G H : Hp} (s : Sub G H) : ∀ {es : List EV} {vs : List V} {f : List Addr} {ds : List D}, Sls R G H es (vs.map some) f → (∀ a ∈ f, G a = none) → DL.toDs es = some ds → Reps R (frz G H f) ds vs
  | [], vs, f, ds, h, g, t => by
    cases t
    have e : vs.map some = [] := h.1
    exact List.map_eq_nil_iff.mp e
  | e :: es, vs, f, ds, h, g, t => by
    obtain ⟨s0, sr, f0, fr, h1, h2, h3, h4⟩ := h
    subst h2
    cases vs with
    | nil => cases h1
    | cons v vs =>
      cases h1
      cases q1 : DL.toD e with
      | none => simp only [DL.toDs, q1] at t; cases t
      | some d =>
        cases q2 : DL.toDs es with
        | none => simp only [DL.toDs, q1, q2] at t; cases t
        | some dr =>
          simp only [DL.toDs, q1, q2] at t
          cases t
          exact ⟨v, vs, rfl, (Sl.toD s h3 (fun a ha => g a (List.mem_append_left _ ha)) q1).mono (frz_mono s fun a ha => List.mem_append_left _ ha),
            (Sls.toDs s h4 (fun a ha => g a (List.mem_append_right _ ha)) q2).mono (frz_mono s fun a ha => List.mem_append_right _ ha)⟩
end
theorem frz_nt {G H : Hp} {f : List Addr} (nt : ∀ a o, G a = some o → NT o) (th : ∀ a ∈ f, ∃ o, H a = some o ∧ NT o ∧ ∀ c q, o ≠ LamX.CodeO c q) : ∀ a o, frz G H f a = some o → NT o := fun a o h => by
  unfold frz at h
  by_cases z : a ∈ f
  · rw [if_pos z] at h
    obtain ⟨u, hu, n, _⟩ := th a z
    rw [hu] at h
    cases h
    exact n
  · rw [if_neg z] at h
    exact nt a o h
/-- what was pushed becomes plain data -/
theorem EnvOk.give {R : RC} {G H : Hp} {env : List EV} {σ : L2.St} {f : List Addr} {ev : EV} {v : V} {d : D} (e : EnvOk R G H (ev :: env) (some v :: σ) f) (t : toD ev = some d) :
    ∃ G' f', EnvOk R G' H env σ f' ∧ Rep R G' d v ∧ Stp G H f G' H f' := by
  obtain ⟨s0, sr, f0, fr, h1, h2, h3, h4⟩ := e.sl
  cases h1
  subst h2
  have nd := List.nodup_append.mp e.nd
  have g0 : ∀ a ∈ f0, G a = none := fun a ha => e.fr a (List.mem_append_left _ ha)
  have r := Sl.toD e.sub h3 g0 t
  refine ⟨frz G H f0, fr, ⟨fun a o h => ?_, h4.keep (frz_sub g0) (fun _ _ _ h => h), nd.2.1, fun a ha => ?_, frz_nt e.nt h3.there, e.tb⟩, r, ⟨frz_sub g0, fun _ _ h _ _ => h, fun a o h => ?_, fun a ha => .inl (List.mem_append_right _ ha)⟩⟩
  · unfold frz at h
    by_cases z : a ∈ f0
    · rw [if_pos z] at h; exact h
    · rw [if_neg z] at h; exact e.sub _ _ h
  · unfold frz
    rw [if_neg (fun z => nd.2.2 a z a ha rfl)]
    exact e.fr a (List.mem_append_right _ ha)
  · unfold frz at h
    by_cases z : a ∈ f0
    · exact .inr (.inr (List.mem_append_left _ z))
    · rw [if_neg z] at h; exact .inl h
section
variable {X : Cx} {W : WX} {Pr : Nat → Bool} {a b c : Expr} {Fa Fb Fc : M D} {pos p : Pos} {Fo : M EV}
def frzM (Fo : M EV) : M D := bnd Fo fun ev => ofO (toD ev)
theorem de_of_do (h : DO X W a Fo) : DE X W a (frzM Fo) := PE.imp h fun σ H Q ⟨G, env, f, e, q⟩ => by
  refine ⟨G, env, f, e, ?_⟩
  have q : At (rc X) W (Rep (rc X)) ((Fo env).bind fun ev => ofO (toD ev)) G H f σ Q := q
  cases z : Fo env with
  | no => rw [z] at q; exact q
  | ex x e => rw [z] at q; exact q
  | ok ev e1 =>
    rw [z] at q
    intro v G' H' f' s k
    have q : At (rc X) W (Rep (rc X)) (ofO (toD ev) e1) G H f σ Q := q
    cases t : toD ev with
    | none => rw [t] at q; exact q.elim
    | some d =>
      rw [t] at q
      obtain ⟨G2, f2, k2, r2, s2⟩ := k.give t
      exact q v G2 H' f2 (s.trans s2) k2 r2
/-- the name of a slot that holds one's own thing: given up -/
def rdF (i : Nat) : M D := fun e => match e[i]? with
  | some ev => (match toD ev with
    | some d => .ok d (e.set i (.v d))
    | none => .no)
  | none => .no
theorem EnvOk.giveAt {R : RC} {G H : Hp} {env : List EV} {σ : L2.St} {f : List Addr} {ev : EV} {d : D} {i : Nat} (e : EnvOk R G H env σ f) (hi : env[i]? = some ev) (t : toD ev = some d) :
    ∃ v G' f', σ[i]? = some (some v) ∧ EnvOk R G' H (env.set i (.v d)) σ f' ∧ Rep R G' d v ∧ Stp G H f G' H f' := by
  obtain ⟨s0, f1, f2, f3, h1, h2, h3, h4⟩ := e.sl.at hi
  have hv : ∃ v, s0 = some v := by
    cases ev with
    | un => cases t
    | v d => obtain ⟨_, w, hw, _⟩ := h3; exact ⟨w, hw⟩
    | ol xs => obtain ⟨a, _, _, hw, _⟩ := h3; exact ⟨_, hw⟩
    | oi c fn fv => obtain ⟨a, _, _, _, _, hw, _⟩ := h3; exact ⟨_, hw⟩
    | od _ _ _ => cases t
  obtain ⟨v, rfl⟩ := hv
  subst h2
  have g2 : ∀ a ∈ f2, G a = none := fun a ha => e.fr a (List.mem_append_left _ (List.mem_append_right _ ha))
  have r := Sl.toD e.sub h3 g2 t
  have nd := e.nd
  have hσ : σ.set i (some v) = σ := by
    apply List.ext_getElem?
    intro j
    by_cases hj : j = i
    · subst hj; rw [List.getElem?_set_self (List.getElem?_eq_some_iff.mp h1).1, h1]
    · rw [List.getElem?_set_ne (Ne.symm hj)]
  have sl := h4 (frz G H f2) H (.v d) (some v) [] (frz_sub g2) (fun _ _ _ h => h) ⟨rfl, v, rfl, r⟩
  rw [hσ, List.append_nil] at sl
  have dis : ∀ a, a ∈ f1 ++ f3 → a ∉ f2 := fun a ha hz => by
    rw [List.append_assoc] at nd
    have n1 := List.nodup_append.mp nd
    have n2 := List.nodup_append.mp n1.2.1
    rcases List.mem_append.mp ha with z | z
    · exact n1.2.2 a z a (List.mem_append_left _ hz) rfl
    · exact n2.2.2 a hz a z rfl
  refine ⟨v, frz G H f2, f1 ++ f3, h1, ⟨fun a o h => ?_, sl, nd.sublist (by rw [List.append_assoc]; exact List.Sublist.append (List.Sublist.refl _) (List.sublist_append_right _ _)), fun a ha => ?_, frz_nt e.nt h3.there, e.tb⟩, r, ⟨frz_sub g2, fun _ _ h _ _ => h, fun a o h => ?_, fun a ha => .inl ?_⟩⟩
  · unfold frz at h
    by_cases z : a ∈ f2
    · rw [if_pos z] at h; exact h
    · rw [if_neg z] at h; exact e.sub _ _ h
  · unfold frz
    rw [if_neg (dis a ha)]
    refine e.fr a ?_
    simp only [List.mem_append] at ha ⊢
    rcases ha with z | z
    · exact .inl (.inl z)
    · exact .inr z
  · unfold frz at h
    by_cases z : a ∈ f2
    · exact .inr (.inr (List.mem_append_left _ (List.mem_append_right _ z)))
    · rw [if_neg z] at h; exact .inl h
  · simp only [List.mem_append] at ha ⊢
    rcases ha with z | z
    · exact .inl (.inl z)
    · exact .inr z
theorem de_varF {i : Nat} {x : Str} {pos : Pos} (h : PE X (.Name x pos) (tVar i)) : DE X W (.Name x pos) (rdF i) := PE.imp h fun σ H Q ⟨G, env, f, e, q⟩ => by
  unfold rdF at q
  cases z : env[i]? with
  | none => rw [z] at q; exact q.elim
  | some ev =>
    rw [z] at q
    dsimp only at q
    cases t : toD ev with
    | none => rw [t] at q; exact q.elim
    | some d =>
      rw [t] at q
      obtain ⟨v, G', f', h1, h2, h3, h4⟩ := e.giveAt z t
      exact ⟨v, h1, q v G' H f' h4 h2 h3⟩
/-! ### argument lists -/
def DX (X : Cx) (W : WX) (es : List Expr) (F : M (List Arg)) : Prop := PA X es fun σ H Q => tM (rc X) W (ArgsR (rc X) σ) F σ H Q
theorem dx_nil : DX X W [] (fun e => .ok [] e) := PA.imp pa_nil fun σ H Q ⟨G, env, f, e, q⟩ => q.done e rfl
def consD (Fa : M D) (Fs : M (List Arg)) : M (List Arg) := bnd Fa fun x => bnd Fs fun xs e => .ok (.d x :: xs) e
theorem dx_cons {es : List Expr} {Fs : M (List Arg)} (ha : DE X W a Fa) (hr : DX X W es Fs) (hs : starEach (a :: es) X.env = (false, eval a X.env) :: starEach es X.env := by rfl) : DX X W (a :: es) (consD Fa Fs) :=
  PA.imp (pa_cons ha hr hs) fun σ H Q h => by
    refine tM_then (P1 := Rep (rc X)) h fun G1 env1 f1 d v H1 e p q => ?_
    refine At.then (P1 := ArgsR (rc X) σ) e q fun G2 env2 f2 ds vs H2 s e2 p2 q2 => ?_
    exact q2.done e2 ⟨v, vs, rfl, p.mono s, p2⟩
def consI (i : Nat) (Fs : M (List Arg)) : M (List Arg) := fun e => match e[i]? with
  | some ev => if isOwn ev then bnd Fs (fun xs e => .ok (.io i :: xs) e) e else .no
  | none => .no
theorem dx_io {es : List Expr} {Fs : M (List Arg)} {i : Nat} {x : Str} (ha : PE X (.Name x p) (tVar i)) (hr : DX X W es Fs) (hs : starEach (.Name x p :: es) X.env = (false, eval (.Name x p) X.env) :: starEach es X.env := by rfl) : DX X W (.Name x p :: es) (consI i Fs) :=
  PA.imp (pa_cons ha hr hs) fun σ H Q ⟨G, env, f, e, q⟩ => by
    unfold consI at q
    cases z : env[i]? with
    | none => rw [z] at q; exact q.elim
    | some ev =>
      rw [z] at q
      dsimp only at q
      by_cases ho : isOwn ev = true
      · rw [if_pos ho] at q
        obtain ⟨s0, f1, f2, f3, h1, h2, h3, h4⟩ := e.sl.at z
        have hv : ∃ v, s0 = some v := by
          cases ev with
          | un => cases ho
          | v d => cases ho
          | ol xs => obtain ⟨a, _, _, hw, _⟩ := h3; exact ⟨_, hw⟩
          | oi c fn fv => obtain ⟨a, _, _, _, _, hw, _⟩ := h3; exact ⟨_, hw⟩
          | od _ _ _ => obtain ⟨a, _, _, hw, _⟩ := h3; exact ⟨_, hw⟩
        obtain ⟨v, rfl⟩ := hv
        refine ⟨v, h1, ?_⟩
        refine At.then (P1 := ArgsR (rc X) σ) e q fun G2 env2 f2 ds vs H2 s e2 p2 q2 => ?_
        exact q2.done e2 ⟨v, vs, rfl, h1, p2⟩
      · rw [if_neg ho] at q; exact q.elim
theorem ArgsR.length {R : RC} {σ : L2.St} {G : Hp} : ∀ {as : List Arg} {vs : List V}, ArgsR R σ G as vs → as.length = vs.length
  | [], vs, h => by
    have e : vs = [] := h
    subst e; rfl
  | .d d :: r, vs, h => by
    obtain ⟨v, w, rfl, h2, h3⟩ := h
    simp [ArgsR.length h3]
  | .io i :: r, vs, h => by
    obtain ⟨v, w, rfl, h2, h3⟩ := h
    simp [ArgsR.length h3]
/-! ### calls of defs -/
abbrev WEat (W : WX) (σ : L2.St) : XK := fun c d H => W c d σ H
section
variable {k : Nat} {f : Addr} {fd : FuncData} {ps : List Str} {S : List EV → Out EV} {dvs : List V} {ds : List Value} {dd : List D} {x : Str}
theorem run_fnG {pins : List (Addr × Obj)} {σ : L2.St} {H : Hp} {s : Shared} {Q : VK} {E : XK} {us : List Value} {vs : List V} (F : FnG X.prog X.w X.K X.mg X.base k f fd ps S) (hg : X.A.guards = some []) (hr : Room k X.A) (hb : Binds X.K fd ps ds) (hd : Vals dvs ds)
    (hx : PassesAt (CX X.prog X.w) X σ E) (I : Inv X pins σ H s) (r : Vals vs us) (h : spD (rc X) ps.length S (vs ++ dvs) H Q E) : wpAny (model X.prog X.w) X.A (call (.ref f) us) (EP X pins σ Q) X.xe s := by
  have r2 : Vals (vs ++ dvs) (us ++ ds) := r.append hd
  have hl : (us ++ ds).length = ps.length := r2.length.symm.trans h.1
  have go := F.run X.A X.stack s H ⟨us, []⟩ (us ++ ds) (vs ++ dvs) Q E hg hr I.env0 (hb s us I.kIn hl) r2 h
  refine wpAny_call (codeAny_mono go ?_)
  intro r s' hq
  cases r with
  | error e => exact hx pins H s e s' I hq
  | ok fl =>
    cases fl with
    | ret u => exact I.after hq
    | next => exact hq.elim
    | brk => exact hq.elim
    | cont => exact hq.elim
/-- a call's meaning: the arguments, then the defaults -/
def callF (n : Nat) (S : List EV → Out EV) (dd : List D) (Fx : M (List Arg)) : M EV := bnd Fx fun as e => if as.length + dd.length = n then callA S (as ++ dd.map .d) e else .no
theorem call_go {n : Nat} {as : List Arg} {vs : List V} {G H : Hp} {e : List EV} {σ : L2.St} {fp : List Addr} {Q : VK} (ev : EnvOk (rc X) G H e σ fp) (ar : ArgsR (rc X) σ G as vs) (hd : ∀ G, Reps (rc X) G dd dvs)
    (q : AtO (rc X) W (if as.length + dd.length = n then callA S (as ++ dd.map .d) e else .no) G H fp σ Q) : spD (rc X) n S (vs ++ dvs) H Q (WEat W σ) := by
  by_cases hn : as.length + dd.length = n
  · rw [if_pos hn] at q
    exact call_read ev (ar.append (ArgsR.plain (hd G))) (by rw [List.length_append, ← ar.length, ← (hd G).length]; exact hn) q
  · rw [if_neg hn] at q
    exact q.elim
theorem do_call {es : List Expr} {e : Expr} {Fx : M (List Arg)} (F : FnG X.prog X.w X.K X.mg X.base k f fd ps S) (hgd : X.A.guards = some []) (hr : Room k X.A) (hg : Gl X x) (hm : X.mg x = some (.ref f)) (hk : PySem.W.keepIn X.K (.ref f) = true) (hb : Binds X.K fd ps ds) (hd : Vals dvs ds)
    (hdd : ∀ G, Reps (rc X) G dd dvs) (hx : ∀ σ, PassesAt (CX X.prog X.w) X σ (WEat W σ)) (ha : DX X W (e :: es) Fx) (hdb : (x == ("__debug__" : Str)) = false := by decide)
    (he : starEach (e :: es) X.env = (false, eval e X.env) :: starEach es X.env := by rfl) (hpl : (backTo pos (starEach es X.env)).any (·.1) = false := by rfl) : DO X W (.Call (.Name x p) (e :: es) [] pos) (callF ps.length S dd Fx) := by
  constructor
  intro pins s σ H Q I h
  refine wpAny_Call_Name_kw (ld_glob I hg hm ?_ hdb)
  have h2 := tO_bind (P1 := ArgsR (rc X) σ) h fun G1 env1 f1 as vs H1 e1 p1 q1 => call_go e1 p1 hdd q1
  refine PySem.W.callWith_K (h₀ := X.base) I.ok.mod.kin hk (thn (ha.run pos pins s σ H _ I h2) ?_) he hpl
  rintro us s1 ⟨vs, H1, I1, r, q⟩
  exact ⟨I1.kIn, run_fnG F hgd hr hb hd (hx σ) I1 r q⟩
theorem do_call0 (F : FnG X.prog X.w X.K X.mg X.base k f fd ps S) (hgd : X.A.guards = some []) (hr : Room k X.A) (hg : Gl X x) (hm : X.mg x = some (.ref f)) (hk : PySem.W.keepIn X.K (.ref f) = true) (hb : Binds X.K fd ps ds) (hd : Vals dvs ds)
    (hdd : ∀ G, Reps (rc X) G dd dvs) (hx : ∀ σ, PassesAt (CX X.prog X.w) X σ (WEat W σ)) (hdb : (x == ("__debug__" : Str)) = false := by decide) : DO X W (.Call (.Name x p) [] [] pos) (callF ps.length S dd fun e => .ok [] e) := by
  constructor
  intro pins s σ H Q I h
  refine wpAny_Call_Name_kw (ld_glob I hg hm ?_ hdb)
  have h2 := tO_bind (P1 := ArgsR (rc X) σ) h fun G1 env1 f1 as vs H1 e1 p1 q1 => call_go e1 p1 hdd q1
  obtain ⟨G, env, f, e, q⟩ := h2
  exact PySem.W.callWith_K0 I.kIn hk (run_fnG (us := []) (vs := []) F hgd hr hb hd (hx σ) I .nil (q.done e rfl))
/-! ### with keywords, plain data all -/
def DK (X : Cx) (W : WX) (kws : List Keyword) (F : M (List D)) : Prop := PK X kws (tM (rc X) W (Reps (rc X)) F)
theorem PK.imp {X : Cx} {kws : List Keyword} {t t' : TA} (h : PK X kws t) (w : ∀ σ H Q, t' σ H Q → t σ H Q) : PK X kws t' := ⟨fun pos pins s σ H Q I q => h.run pos pins s σ H Q I (w σ H Q q)⟩
theorem dk_nil : DK X W [] (fun e => .ok [] e) := PK.imp pk_nil fun σ H Q ⟨G, env, f, e, q⟩ => q.done e rfl
theorem dk_cons {kws : List Keyword} {nm : Option Str} {kpos : Pos} {Fs : M (List D)} (ha : DE X W a Fa) (hr : DK X W kws Fs) : DK X W (⟨nm, a, kpos⟩ :: kws) (consM Fa Fs) :=
  PK.imp (pk_cons ha hr) fun σ H Q h => by
    refine tM_then (P1 := Rep (rc X)) h fun G1 env1 f1 d v H1 e p q => ?_
    refine At.then (P1 := Reps (rc X)) e q fun G2 env2 f2 ds vs H2 s e2 p2 q2 => ?_
    exact q2.done e2 ⟨v, vs, rfl, p.mono s, p2⟩
/-- how the parameters come about: n positional values, the keywords' values -/
structure KBd (R : RC) (fd : FuncData) (ps : List Str) (n : Nat) (ks : List Str) (g : List Value → List Value → List Value) (gV : List V → List V → List V) (gD : List D → List D → List D) : Prop where
  to : ∀ (s : Shared) (us ws : List Value), R.K.In s.heap → us.length = n → ws.length = ks.length → BindsTo s fd ⟨us, ks.zip ws⟩ (ps.zip (g us ws))
  rel : ∀ {vs : List V} {us : List Value} {zs : List V} {ws : List Value}, Vals vs us → Vals zs ws → Vals (gV vs zs) (g us ws)
  rep : ∀ {G : Hp} {ds es : List D} {vs zs : List V}, Reps R G ds vs → Reps R G es zs → Reps R G (gD ds es) (gV vs zs)
/-- f(a, .., k = b, ..) -/
def callK (n m np : Nat) (S : List EV → Out EV) (gD : List D → List D → List D) (Fs Fk : M (List D)) : M EV := bnd Fs fun ds => bnd Fk fun es e => if ds.length = n ∧ es.length = m ∧ (gD ds es).length = np then callA S ((gD ds es).map .d) e else .no
theorem run_fnK {n : Nat} {ks : List Str} {g : List Value → List Value → List Value} {gV : List V → List V → List V} {gD : List D → List D → List D} {pins : List (Addr × Obj)} {σ : L2.St} {H : Hp} {s : Shared} {Q : VK} {E : XK} {us ws : List Value} {vs zs : List V}
    (F : FnG X.prog X.w X.K X.mg X.base k f fd ps S) (hg : X.A.guards = some []) (hr : Room k X.A) (hb : KBd (rc X) fd ps n ks g gV gD) (hx : PassesAt (CX X.prog X.w) X σ E) (I : Inv X pins σ H s) (r : Vals vs us) (rz : Vals zs ws) (l1 : vs.length = n) (l2 : zs.length = ks.length)
    (h : spD (rc X) ps.length S (gV vs zs) H Q E) : wpAny (model X.prog X.w) X.A (call (.ref f) us (ks.zip ws)) (EP X pins σ Q) X.xe s := by
  have go := F.run X.A X.stack s H ⟨us, ks.zip ws⟩ (g us ws) (gV vs zs) Q E hg hr I.env0 (hb.to s us ws I.kIn (r.length.symm.trans l1) (rz.length.symm.trans l2)) (hb.rel r rz) h
  refine wpAny_call (codeAny_mono go ?_)
  intro r s' hq
  cases r with
  | error e => exact hx pins H s e s' I hq
  | ok fl =>
    cases fl with
    | ret u => exact I.after hq
    | next => exact hq.elim
    | brk => exact hq.elim
    | cont => exact hq.elim
theorem callK_go {n m np : Nat} {gV : List V → List V → List V} {gD : List D → List D → List D} (hrep : ∀ {G : Hp} {ds es : List D} {vs zs : List V}, Reps (rc X) G ds vs → Reps (rc X) G es zs → Reps (rc X) G (gD ds es) (gV vs zs)) {ds es : List D} {vs zs : List V} {G H : Hp} {e : List EV} {σ : L2.St} {fp : List Addr} {Q : VK}
    (ev : EnvOk (rc X) G H e σ fp) (r1 : Reps (rc X) G ds vs) (r2 : Reps (rc X) G es zs) (q : AtO (rc X) W (if ds.length = n ∧ es.length = m ∧ (gD ds es).length = np then callA S ((gD ds es).map .d) e else .no) G H fp σ Q) :
    vs.length = n ∧ zs.length = m ∧ spD (rc X) np S (gV vs zs) H Q (WEat W σ) := by
  by_cases hc : ds.length = n ∧ es.length = m ∧ (gD ds es).length = np
  · rw [if_pos hc] at q
    have r := hrep r1 r2
    exact ⟨r1.length.symm.trans hc.1, r2.length.symm.trans hc.2.1, call_read ev (ArgsR.plain r) (r.length.symm.trans hc.2.2) q⟩
  · rw [if_neg hc] at q
    exact q.elim
theorem tO_then {α β : Type} {R : RC} {W : WX} {P1 : Hp → α → β → Prop} {F : M α} {k : α → M EV} {σ : L2.St} {G H : Hp} {env : List EV} {fp : List Addr} {Q : VK} {Q' : β → Hp → Prop} (e : EnvOk R G H env σ fp) (h : AtO R W (bnd F k env) G H fp σ Q)
    (w : ∀ G1 env1 f1 a b H1, Sub G G1 → EnvOk R G1 H1 env1 σ f1 → P1 G1 a b → AtO R W (k a env1) G1 H1 f1 σ Q → Q' b H1) : tM R W P1 F σ H Q' := by
  refine ⟨G, env, fp, e, ?_⟩
  have h : AtO R W ((F env).bind k) G H fp σ Q := h
  cases q : F env with
  | ok a e1 =>
    rw [q] at h
    exact fun b G' H' f' s e' p => w G' e1 f' a b H' s.sub e' p (h.step s)
  | ex x e1 => rw [q] at h; exact h
  | no => rw [q] at h; exact h
theorem do_callK {n : Nat} {ks : List Str} {g : List Value → List Value → List Value} {gV : List V → List V → List V} {gD : List D → List D → List D} {es : List Expr} {e : Expr} {kws : List Keyword} {Fs Fk : M (List D)}
    (F : FnG X.prog X.w X.K X.mg X.base k f fd ps S) (hgd : X.A.guards = some []) (hr : Room k X.A) (hg : Gl X x) (hm : X.mg x = some (.ref f)) (hk : PySem.W.keepIn X.K (.ref f) = true) (hb : KBd (rc X) fd ps n ks g gV gD)
    (hx : ∀ σ, PassesAt (CX X.prog X.w) X σ (WEat W σ)) (ha : DAs X W (e :: es) Fs) (hkw : DK X W kws Fk) (hall : (backToKw pos (keywordEach kws X.env)).all (·.1.isSome) = true := by rfl) (hks : (backToKw pos (keywordEach kws X.env)).filterMap (·.1) = ks := by rfl)
    (hdb : (x == ("__debug__" : Str)) = false := by decide) (he : starEach (e :: es) X.env = (false, eval e X.env) :: starEach es X.env := by rfl)
    (hpl : ((backTo pos (starEach (e :: es) X.env)).any (·.1) || (backToKw pos (keywordEach kws X.env)).any (·.1.isNone)) = false := by rfl) : DO X W (.Call (.Name x p) (e :: es) kws pos) (callK n ks.length ps.length S gD Fs Fk) := by
  constructor
  intro pins s σ H Q I h
  refine wpAny_Call_Name_kw (ld_glob I hg hm ?_ hdb)
  have h2 := tO_bind (P1 := Reps (rc X)) h fun G1 env1 f1 ds vs H1 e1 p1 q1 =>
    tO_then (P1 := Reps (rc X)) e1 q1 fun G2 env2 f2 es zs H2 s2 e2 p2 q2 => callK_go hb.rep e2 (p1.mono s2) p2 q2
  refine PySem.W.callWith_KW (h₀ := X.base) I.ok.mod.kin hk hall (thn (ha.run pos pins s σ H _ I h2) ?_) hpl he
  rintro us s1 ⟨vs, H1, I1, r, q⟩
  refine thn (hkw.run pos pins s1 σ H1 _ I1 q) ?_
  rintro ws s2 ⟨zs, H2, I2, rz, l1, l2, q2⟩
  rw [hks]
  exact ⟨I2.kIn, run_fnK F hgd hr hb (hx σ) I2 r rz l1 l2 q2⟩
theorem do_callK0 {ks : List Str} {g : List Value → List Value → List Value} {gV : List V → List V → List V} {gD : List D → List D → List D} {kws : List Keyword} {Fk : M (List D)}
    (F : FnG X.prog X.w X.K X.mg X.base k f fd ps S) (hgd : X.A.guards = some []) (hr : Room k X.A) (hg : Gl X x) (hm : X.mg x = some (.ref f)) (hk : PySem.W.keepIn X.K (.ref f) = true) (hb : KBd (rc X) fd ps 0 ks g gV gD)
    (hx : ∀ σ, PassesAt (CX X.prog X.w) X σ (WEat W σ)) (hkw : DK X W kws Fk) (hall : (backToKw pos (keywordEach kws X.env)).all (·.1.isSome) = true := by rfl) (hks : (backToKw pos (keywordEach kws X.env)).filterMap (·.1) = ks := by rfl)
    (hdb : (x == ("__debug__" : Str)) = false := by decide)
    (hpl : ((backTo pos (starEach [] X.env)).any (·.1) || (backToKw pos (keywordEach kws X.env)).any (·.1.isNone)) = false := by rfl) : DO X W (.Call (.Name x p) [] kws pos) (callK 0 ks.length ps.length S gD (fun e => .ok [] e) Fk) := by
  constructor
  intro pins s σ H Q I h
  refine wpAny_Call_Name_kw (ld_glob I hg hm ?_ hdb)
  have h2 := tO_bind (P1 := Reps (rc X)) h fun G1 env1 f1 ds vs H1 e1 p1 q1 =>
    tO_then (P1 := Reps (rc X)) e1 q1 fun G2 env2 f2 es zs H2 s2 e2 p2 q2 => callK_go hb.rep e2 (p1.mono s2) p2 q2
  obtain ⟨G, env, f, e, q⟩ := h2
  refine PySem.W.callWith_KW0 (h₀ := X.base) I.ok.mod.kin hk hall ?_ hpl
  refine thn (hkw.run pos pins s σ H _ I (q.done e (b := []) rfl)) ?_
  rintro ws s2 ⟨zs, H2, I2, rz, l1, l2, q2⟩
  rw [hks]
  exact ⟨I2.kIn, run_fnK (us := []) (vs := []) F hgd hr hb (hx σ) I2 .nil rz l1 l2 q2⟩
end
end
end DL

namespace DL
open PySem PySem.Spec PyProof.Rows L2
variable [LT]

section
variable {X : Cx} {W : WX} {Pr : Nat → Bool} {a b c tg : Expr} {Fa Fb Fc : M D} {pos p p2 : Pos} {Fo : M EV}
/-! ### a < b < c -/
theorem tM_chain {r r' : R2} {g g' : D → D → Option D} {R : RC} (hg : OpD R r g) (hg' : OpD R r' g') {σ : L2.St} {H : Hp} {Q : VK} (h : tM R W (Rep R) (chain g g' Fa Fb Fc) σ H Q) : tChain r r' (tM R W (Rep R) Fa) (tM R W (Rep R) Fb) (tM R W (Rep R) Fc) σ H Q := by
  refine tM_then (P1 := Rep R) h fun G1 env1 f1 dx x H1 e1 p1 q1 => ?_
  refine At.then (P1 := Rep R) e1 q1 fun G2 env2 f2 dy y H2 s2 e2 p2 q2 => ?_
  have q2 : At R W (Rep R) ((ofO (g dx dy) env2).bind _) G2 H2 f2 σ Q := q2
  cases z : g dx dy with
  | none => rw [z] at q2; exact q2.elim
  | some k =>
    rw [z] at q2
    refine hg G2 H2 x y dx dy k _ e2.sub (p1.mono s2) p2 z fun v G3 H3 al rv => ?_
    have e3 := e2.alo al
    have q3 := At.step q2 (al.stp f2)
    cases k with
    | bl k =>
      refine ⟨k, rv, ?_⟩
      cases k with
      | false => exact iteF (q3.done e3 rfl)
      | true =>
        refine iteT ?_
        refine At.then (P1 := Rep R) e3 q3 fun G4 env4 f4 dz zz H4 s4 e4 p4 q4 => ?_
        obtain ⟨d, hd, q5⟩ := q4.fin e4
        exact hg' G4 H4 y zz dy dz d Q e4.sub (p2.mono (al.sub.trans s4)) p4 hd q5
    | _ => exact q3.elim
theorem de_ch {op op' : CmpOp} {g g' : D → D → Option D} (h : CmpD X op g) (h' : CmpD X op' g') (ha : DE X W a Fa) (hb : DE X W b Fb) (hc : DE X W c Fc) (hm : lastMarks [op, op'] [b, c] = false := by with_unfolding_all rfl) :
    DE X W (.Compare a [op, op'] [b, c] pos) (chain g g' Fa Fb Fc) := by
  obtain ⟨r, ho, hg⟩ := h
  obtain ⟨r', ho', hg'⟩ := h'
  exact PE.imp (pe_chain ho ho' ha hb hc hm) fun σ H Q q => tM_chain hg hg' q
theorem dt_ch {op op' : CmpOp} {g g' : D → D → Option D} (h : CmpD X op g) (h' : CmpD X op' g') (ha : DE X W a Fa) (hb : DE X W b Fb) (hc : DE X W c Fc) (hm : lastMarks [op, op'] [b, c] = false := by with_unfolding_all rfl) :
    DT X W (.Compare a [op, op'] [b, c] pos) (asB (chain g g' Fa Fb Fc)) := by
  obtain ⟨r, ho, hg⟩ := h
  obtain ⟨r', ho', hg'⟩ := h'
  exact PT.imp (pt_chain ho ho' ha hb hc hm) fun σ H Q q => by
    obtain ⟨G, env, f, e, q⟩ := tM_tB q
    exact tM_chain hg hg' ⟨G, env, f, e, q⟩
/-! ### in -/
def inD (x y : D) : Option Bool := match toP x, (match y with | .lst ys => toPs ys | .tup ys => toPs ys | _ => none) with
  | some p, some ps => if SeqAt.shaped p && PyData.canLayAll0 ps then some (ps.any fun z => PyData.eqv z p) else none
  | _, _ => none
def gIn (x y : D) : Option D := (inD x y).map .bl
def gNotIn (x y : D) : Option D := (inD x y).map fun b => .bl (!b)
def rInU (K : PySem.W.Frag) (neg : Bool) : R2 := fun x y H Q => ∃ d ds, Dp K H x d ∧ (Dp K H y (.list ds) ∨ Dp K H y (.tuple ds)) ∧ SeqAt.shaped d = true ∧ PyData.canLayAll0 ds = true ∧ Q (.bl (if neg then !(ds.any fun z => PyData.eqv z d) else ds.any fun z => PyData.eqv z d)) H
theorem op_inU (hu : X.A.units + 65 < cLine) : OpR X (compareOp .In) (rInU X.K false) := by
  rintro pins s σ H x y v u Q I rx ry ⟨d, ds, hd, he | he, sd, se, q⟩
  · obtain ⟨as, r1⟩ := Dp.reads I d x v hd rx
    obtain ⟨bs, r2⟩ := Dp.reads I _ y u he ry
    exact SeqAt.in_list_reads r2 r1 se (SeqAt.canLay_of_shaped sd) (room_in_shaped sd hu) ⟨.bl _, H, I, rfl, q⟩
  · obtain ⟨as, r1⟩ := Dp.reads I d x v hd rx
    obtain ⟨bs, r2⟩ := Dp.reads I _ y u he ry
    exact SeqAt.in_tuple_reads r2 r1 se (SeqAt.canLay_of_shaped sd) (room_in_shaped sd hu) ⟨.bl _, H, I, rfl, q⟩
theorem op_notInU (hu : X.A.units + 65 < cLine) : OpR X (compareOp .NotIn) (rInU X.K true) := by
  rintro pins s σ H x y v u Q I rx ry ⟨d, ds, hd, he | he, sd, se, q⟩
  · obtain ⟨as, r1⟩ := Dp.reads I d x v hd rx
    obtain ⟨bs, r2⟩ := Dp.reads I _ y u he ry
    exact SeqAt.notIn_list_reads r2 r1 se (SeqAt.canLay_of_shaped sd) (room_in_shaped sd hu) ⟨.bl _, H, I, rfl, q⟩
  · obtain ⟨as, r1⟩ := Dp.reads I d x v hd rx
    obtain ⟨bs, r2⟩ := Dp.reads I _ y u he ry
    exact SeqAt.notIn_tuple_reads r2 r1 se (SeqAt.canLay_of_shaped sd) (room_in_shaped sd hu) ⟨.bl _, H, I, rfl, q⟩
theorem inD_ok {G H : Hp} {x y : V} {dx dy : D} {k : Bool} (s : Sub G H) (rx : Rep (rc X) G dx x) (ry : Rep (rc X) G dy y) (e : inD dx dy = some k) :
    ∃ d ds, Dp X.K H x d ∧ (Dp X.K H y (.list ds) ∨ Dp X.K H y (.tuple ds)) ∧ SeqAt.shaped d = true ∧ PyData.canLayAll0 ds = true ∧ k = ds.any fun z => PyData.eqv z d := by
  unfold inD at e
  cases q1 : toP dx with
  | none => rw [q1] at e; cases e
  | some p =>
    rw [q1] at e
    cases dy with
    | lst ys =>
      dsimp only at e
      cases q2 : toPs ys with
      | none => rw [q2] at e; cases e
      | some ps =>
        rw [q2] at e
        dsimp only at e
        by_cases hc : (SeqAt.shaped p && PyData.canLayAll0 ps) = true
        · rw [if_pos hc] at e
          cases e
          obtain ⟨c1, c2⟩ := Bool.and_eq_true_iff.mp hc
          exact ⟨p, ps, dp_of s rx q1, .inl (dp_of (d := .lst ys) s ry (by simp only [toP, q2, Option.map_some])), c1, c2, rfl⟩
        · rw [if_neg hc] at e; cases e
    | tup ys =>
      dsimp only at e
      cases q2 : toPs ys with
      | none => rw [q2] at e; cases e
      | some ps =>
        rw [q2] at e
        dsimp only at e
        by_cases hc : (SeqAt.shaped p && PyData.canLayAll0 ps) = true
        · rw [if_pos hc] at e
          cases e
          obtain ⟨c1, c2⟩ := Bool.and_eq_true_iff.mp hc
          exact ⟨p, ps, dp_of s rx q1, .inr (dp_of (d := .tup ys) s ry (by simp only [toP, q2, Option.map_some])), c1, c2, rfl⟩
        · rw [if_neg hc] at e; cases e
    | _ => cases e
theorem od_in : OpD (rc X) (rInU X.K false) gIn := by
  intro G H x y dx dy d Q s rx ry e q
  obtain ⟨k, e1, e2⟩ := Option.map_eq_some_iff.mp e
  subst e2
  obtain ⟨p, ps, h1, h2, h3, h4, rfl⟩ := inD_ok s rx ry e1
  exact ⟨p, ps, h1, h2, h3, h4, q _ G H (.refl s) rfl⟩
theorem od_notIn : OpD (rc X) (rInU X.K true) gNotIn := by
  intro G H x y dx dy d Q s rx ry e q
  obtain ⟨k, e1, e2⟩ := Option.map_eq_some_iff.mp e
  subst e2
  obtain ⟨p, ps, h1, h2, h3, h4, rfl⟩ := inD_ok s rx ry e1
  exact ⟨p, ps, h1, h2, h3, h4, q _ G H (.refl s) rfl⟩
theorem cm_in (hu : X.A.units + 65 < cLine) : CmpD X .In gIn := ⟨_, op_inU hu, od_in⟩
theorem cm_notIn (hu : X.A.units + 65 < cLine) : CmpD X .NotIn gNotIn := ⟨_, op_notInU hu, od_notIn⟩
/-! ### slices -/
def DPo (X : Cx) (W : WX) (e : Option Expr) (F : M (Option Int)) : Prop := PO X e (tM (rc X) W (fun _ a b => a = b) F)
theorem PO.imp {X : Cx} {e : Option Expr} {t t' : TO} (h : PO X e t) (w : ∀ σ H Q, t' σ H Q → t σ H Q) : PO X e t' := ⟨fun pins s σ H Q I q => h.run pins s σ H Q I (w σ H Q q)⟩
theorem dp_none : DPo X W none (fun e => .ok none e) := PO.imp po_none fun σ H Q ⟨G, env, f, e, q⟩ => q.done e rfl
def asI (Fa : M D) : M (Option Int) := bnd Fa fun d e => match d with
  | .int i => .ok (some i) e
  | _ => .no
theorem dp_some (ha : DE X W a Fa) : DPo X W (some a) (asI Fa) := PO.imp (po_some ha) fun σ H Q h => by
  refine tM_then (P1 := Rep (rc X)) h fun G1 env1 f1 d v H1 e p q => ?_
  cases d with
  | int i => exact ⟨i, p, q.done e rfl⟩
  | _ => exact q.elim
def cutD {α : Type} (xs : List α) (lo hi : Option Int) : List α := (xs.drop (HT.sIx xs.length 0 lo)).take (HT.sIx xs.length xs.length hi - HT.sIx xs.length 0 lo)
theorem Reps.cut {R : RC} {G : Hp} {xs : List D} {vs : List V} (h : Reps R G xs vs) (lo hi : Option Int) : Reps R G (cutD xs lo hi) (cutV vs lo hi) := by
  unfold cutD cutV
  rw [h.length]
  exact (h.drop _).take _
def gSl (x : D) (lo hi : Option Int) : Option D := match x with
  | .lst xs => some (.lst (cutD xs lo hi))
  | .tup xs => some (.tup (cutD xs lo hi))
  | .str z => if z.length ≤ 16777216 then some (.str (cutS z lo hi)) else none
  | _ => none
def slM (Fa : M D) (Fl Fh : M (Option Int)) : M D := bnd Fa fun x => bnd Fl fun l => bnd Fh fun h => ofO (gSl x l h)
def rSlU (K : PySem.W.Frag) : V → Option Int → Option Int → Hp → VK → Prop := fun x lo hi H Q => rSlL K x lo hi H Q ∨ (rSlZ K x lo hi H Q ∨ rSlS x lo hi H Q)
theorem sl_U : SlR X (rSlU X.K) := sl_list.or (sl_tupZ.or sl_str)
theorem cut_whole {α : Type} (xs : List α) (lo hi : Option Int) (h : HT.sIx xs.length 0 lo = 0 ∧ HT.sIx xs.length xs.length hi = xs.length) : cutD xs lo hi = xs := by
  unfold cutD
  rw [h.1, h.2, List.drop_zero, Nat.sub_zero, List.take_length]
theorem de_sl {lo hi : Option Expr} {Fl Fh : M (Option Int)} (ha : DE X W a Fa) (hl : DPo X W lo Fl) (hh : DPo X W hi Fh) : DE X W (.Subscript a (.Slice lo hi none p2) pos) (slM Fa Fl Fh) := PE.imp (pe_slice sl_U ha hl hh) fun σ H Q h => by
  refine tM_then (P1 := Rep (rc X)) h fun G1 env1 f1 d v H1 e1 p1 q1 => ?_
  refine At.then (P1 := fun _ a b => a = b) e1 q1 fun G2 env2 f2 l l' H2 s2 e2 p2 q2 => ?_
  refine At.then (P1 := fun _ a b => a = b) e2 q2 fun G3 env3 f3 h h' H3 s3 e3 p3 q3 => ?_
  subst p2 p3
  obtain ⟨r, hr, q4⟩ := q3.fin e3
  have p1 := p1.mono (s2.trans s3)
  cases d with
  | lst xs =>
    cases hr
    obtain ⟨a, vs, rfl, h2, h3⟩ := p1
    exact .inl ⟨a, vs, rfl, SqL.of (e3.sub _ _ h2), fun p hp => q4 _ _ _ (.new e3.sub hp) ⟨p, _, rfl, upd_same, (h3.cut _ _).mono (upd_sub e3.sub hp)⟩⟩
  | tup xs =>
    cases hr
    obtain ⟨a, vs, rfl, h2, h3⟩ := p1
    refine .inr (.inl ⟨a, vs, rfl, (e3.sub.tpA h2).sq, fun hw => ?_, fun p o hp ho => q4 _ _ _ (.new e3.sub hp) ⟨p, _, rfl, .inl ⟨o, upd_same, ho⟩, (h3.cut _ _).mono (upd_sub e3.sub hp)⟩⟩)
    refine q4 _ G3 H3 (.refl e3.sub) ⟨a, vs, rfl, h2, ?_⟩
    rw [cut_whole xs l h (by rw [h3.length]; exact hw)]
    exact h3
  | str z =>
    simp only [gSl] at hr
    by_cases hz : z.length ≤ 16777216
    · rw [if_pos hz] at hr
      cases hr
      exact .inr (.inr ⟨z, p1, by rw [sizeLine_eq]; exact hz, q4 _ G3 H3 (.refl e3.sub) rfl⟩)
    · rw [if_neg hz] at hr; cases hr
  | _ => cases hr
/-! ### fields of things that do not change -/
def lookF : List Str → List D → Str → Option D
  | n :: ns, d :: ds, f => if n = f then some d else lookF ns ds f
  | _, _, _ => none
theorem lookF_ok {R : RC} {G : Hp} {f : Str} {d : D} : ∀ {fv : List D} {fs : List (Str × V)}, Reps R G fv (fs.map (·.2)) → lookF (fs.map (·.1)) fv f = some d → ∃ v, fs.lookup f = some v ∧ Rep R G d v
  | [], [], h, e => by cases e
  | [], p :: fs, h, e => by cases e
  | x :: fv, [], h, e => by cases e
  | x :: fv, p :: fs, h, e => by
    obtain ⟨v, r, h1, h2, h3⟩ := h
    cases h1
    obtain ⟨n, w⟩ := p
    have e : (if n = f then some x else lookF (fs.map (·.1)) fv f) = some d := e
    by_cases hn : n = f
    · rw [if_pos hn] at e
      cases e
      subst hn
      exact ⟨w, by simp [List.lookup], h2⟩
    · rw [if_neg hn] at e
      obtain ⟨v, g1, g2⟩ := lookF_ok h3 e
      exact ⟨v, by rw [List.lookup_cons, show (f == n) = false by simpa using Ne.symm hn]; exact g1, g2⟩
def gFld (cl : List Str) (f : Str) : D → Option D
  | .ins c fn fv => if cl.contains c then lookF fn fv f else none
  | _ => none
theorem de_fld {f : Str} {cl : List Str} (hcl : ∀ c ∈ cl, ∀ C, X.mg c = some (.ref C) → Cls X.K C ∧ NoAttr X.K C f) (ha : DE X W a Fa) (hb : attributeBase a f X.env (eval a X.env) = eval a X.env := by rfl) : DE X W (.Attribute a f pos) (un1 (gFld cl f) Fa) :=
  PE.imp (pe_fld ha hb) fun σ H Q h => by
    refine tM_then (P1 := Rep (rc X)) h fun G1 env1 f1 d v H1 e1 p1 q1 => ?_
    obtain ⟨r, hr, q2⟩ := q1.fin e1
    cases d with
    | ins c fn fv =>
      simp only [gFld] at hr
      by_cases hc : cl.contains c = true
      · rw [if_pos hc] at hr
        obtain ⟨a, dx, C, fs, rfl, h2, h3, h4, h5⟩ := p1
        subst h4
        obtain ⟨w, g1, g2⟩ := lookF_ok h5 hr
        obtain ⟨k1, k2⟩ := hcl c (List.contains_iff_mem.mp hc) C h2
        exact ⟨a, C, dx, fs, w, rfl, e1.sub _ _ h3, k1, k2, g1, q2 w G1 H1 (.refl e1.sub) g2⟩
      · rw [if_neg hc] at hr; cases hr
    | _ => cases hr
/-! ### lists of numbers -/
def gMaxL : List D → Option D
  | [.lst xs] => (toInts xs).bind fun ns => ns.max?.map .int
  | _ => none
def gMinL : List D → Option D
  | [.lst xs] => (toInts xs).bind fun ns => ns.min?.map .int
  | _ => none
theorem cd_maxL : CallD (rc X) (rMax X.K) gMaxL := by
  intro G H vs ds d Q s r e q
  unfold gMaxL at e
  split at e
  · obtain ⟨ns, e1, e⟩ := Option.bind_eq_some_iff.mp e
    obtain ⟨m, e2, e3⟩ := Option.map_eq_some_iff.mp e
    subst e3
    obtain ⟨v, rfl, a, ws, rfl, h2, h3⟩ := r.one'
    obtain ⟨m1, m2⟩ := List.max?_eq_some_iff.mp e2
    refine ⟨a, ns, rfl, by rw [← reps_ints h3 e1]; exact SqL.of (s _ _ h2), List.length_pos_of_mem m1, fun k k1 k2 => ?_⟩
    have : k = m := Int.le_antisymm (m2 k k1) (k2 m m1)
    subst this
    exact q _ G H (.refl s) rfl
  · cases e
theorem cd_minL : CallD (rc X) (rMin X.K) gMinL := by
  intro G H vs ds d Q s r e q
  unfold gMinL at e
  split at e
  · obtain ⟨ns, e1, e⟩ := Option.bind_eq_some_iff.mp e
    obtain ⟨m, e2, e3⟩ := Option.map_eq_some_iff.mp e
    subst e3
    obtain ⟨v, rfl, a, ws, rfl, h2, h3⟩ := r.one'
    obtain ⟨m1, m2⟩ := List.min?_eq_some_iff.mp e2
    refine ⟨a, ns, rfl, by rw [← reps_ints h3 e1]; exact SqL.of (s _ _ h2), List.length_pos_of_mem m1, fun k k1 k2 => ?_⟩
    have : k = m := Int.le_antisymm (k2 m m1) (m2 k k1)
    subst this
    exact q _ G H (.refl s) rfl
  · cases e
/-! ### list(range(..)), tuple(range(..)) -/
theorem rgV_eq (i j : Int) : rgV i j = ((List.range (j - i).toNat).map fun k => V.int (i + (k : Nat))) := rfl
theorem reps_rg {R : RC} {G : Hp} (i : Int) (n : Nat) : Reps R G (rgD i n) ((List.range n).map fun k => V.int (i + (k : Nat))) := by
  unfold rgD
  generalize List.range n = l
  induction l with
  | nil => rfl
  | cons x l ih => exact ⟨_, _, rfl, rfl, ih⟩
def gRgV : List D → Option (List D)
  | [.int j] => if 0 ≤ j ∧ j ≤ 16777216 then some (rgD 0 j.toNat) else none
  | [.int i, .int j] => if 0 ≤ i ∧ i ≤ 16777216 ∧ 0 ≤ j ∧ j ≤ 16777216 then some (rgD i (j - i).toNat) else none
  | _ => none
def rgL (Fs : M (List D)) : M D := bnd Fs fun ds => ofO ((gRgV ds).map .lst)
def rgT (Fs : M (List D)) : M D := bnd Fs fun ds => ofO ((gRgV ds).map .tup)
def one (Fa : M D) : M (List D) := bnd Fa fun d e => .ok [d] e
def two (Fa Fb : M D) : M (List D) := bnd Fa fun d => bnd Fb fun d' e => .ok [d, d'] e
theorem rg_one {R : RC} {σ : L2.St} {H : Hp} {K : Int → Int → Hp → Prop} {Q : VK} {mk : List D → D} (h : tM R W (Rep R) (bnd (one Fa) fun ds => ofO ((gRgV ds).map mk)) σ H Q)
    (w : ∀ j G1 H1 f1 env1, 0 ≤ j → j ≤ 16777216 → EnvOk R G1 H1 env1 σ f1 → (∀ v G' H', Alo G1 H1 G' H' → Rep R G' (mk (rgD 0 j.toNat)) v → Q v H') → K 0 j H1) : tRg1 (tM R W (Rep R) Fa) σ H K := by
  have h : tM R W (Rep R) (bnd Fa fun d => fun e => ofO ((gRgV [d]).map mk) e) σ H Q := by
    obtain ⟨G, env, f, e, q⟩ := h
    refine ⟨G, env, f, e, ?_⟩
    have q : At R W (Rep R) (((Fa env).bind fun d e => .ok [d] e).bind fun ds => ofO ((gRgV ds).map mk)) G H f σ Q := q
    show At R W (Rep R) ((Fa env).bind fun d e => ofO ((gRgV [d]).map mk) e) G H f σ Q
    cases z : Fa env with
    | ok a e => rw [z] at q; exact q
    | ex x e => rw [z] at q; exact q
    | no => rw [z] at q; exact q
  refine tM_then (P1 := Rep R) h fun G1 env1 f1 d v H1 e p q => ?_
  obtain ⟨r, hr, q⟩ := q.fin e
  obtain ⟨l, e1, e2⟩ := Option.map_eq_some_iff.mp hr
  subst e2
  cases d with
  | int j =>
    simp only [gRgV] at e1
    by_cases hj : 0 ≤ j ∧ j ≤ 16777216
    · rw [if_pos hj] at e1
      cases e1
      exact ⟨j, p, w j G1 H1 f1 env1 hj.1 hj.2 e q⟩
    · rw [if_neg hj] at e1; cases e1
  | _ => cases e1
theorem de_lrg1 {p1 p2 p3 : Pos} (hc : X.calm = true) (hgl : Gl X "list") (hml : X.mg "list" = none) (hg : Gl X "range") (hm : X.mg "range" = none) (ha : DE X W a Fa) (na : starEach [a] X.env = (false, eval a X.env) :: starEach [] X.env := by rfl)
    (nb : starEach [.Call (.Name "range" p1) [a] [] p2] X.env = (false, eval (.Call (.Name "range" p1) [a] [] p2) X.env) :: starEach [] X.env := by rfl) : DE X W (.Call (.Name "list" p3) [.Call (.Name "range" p1) [a] [] p2] [] pos) (rgL (one Fa)) :=
  PE.imp (pe_listRg hc hgl hml (prg_1 hg hm ha na) nb) fun σ H Q h => by
    refine rg_one h fun j G1 H1 f1 env1 h0 h1 e q => ⟨RgOk.of_le (Int.le_refl 0) h1 (by decide) h0, fun p hp => ?_⟩
    refine q _ _ _ (.new e.sub hp) ⟨p, _, rfl, upd_same, ?_⟩
    rw [rgV_eq, Int.sub_zero]
    exact reps_rg 0 j.toNat
theorem de_trg1 {p1 p2 p3 : Pos} (hc : X.calm = true) (hgl : Gl X "tuple") (hml : X.mg "tuple" = none) (hg : Gl X "range") (hm : X.mg "range" = none) (ha : DE X W a Fa) (na : starEach [a] X.env = (false, eval a X.env) :: starEach [] X.env := by rfl)
    (nb : starEach [.Call (.Name "range" p1) [a] [] p2] X.env = (false, eval (.Call (.Name "range" p1) [a] [] p2) X.env) :: starEach [] X.env := by rfl) : DE X W (.Call (.Name "tuple" p3) [.Call (.Name "range" p1) [a] [] p2] [] pos) (rgT (one Fa)) :=
  PE.imp (pe_tupRgZ hc hgl hml (prg_1 hg hm ha na) nb) fun σ H Q h => by
    refine rg_one h fun j G1 H1 f1 env1 h0 h1 e q => ⟨RgOk.of_le (Int.le_refl 0) h1 (by decide) h0, fun p o hp ho => ?_⟩
    refine q _ _ _ (.new e.sub hp) ⟨p, _, rfl, .inl ⟨o, upd_same, ho⟩, ?_⟩
    rw [rgV_eq, Int.sub_zero]
    exact reps_rg 0 j.toNat
/-! ### ranges downwards -/
def dnD (i : Int) (n : Nat) : List D := (List.range n).map fun k => .int (i + (k : Nat) * (-1))
theorem walk_dn {R : RC} {G : Hp} {i : Int} {n : Nat} : Walk R G (Itc i (-1) n) (dnD i n) := by
  intro j Gc Hc s1 s2
  have hl : (dnD i n).length = n := by simp [dnD]
  refine ⟨fun hi => by rw [hl] at hi; exact hi, fun d hd => ?_⟩
  have hj : j < n := by
    have := (List.getElem?_eq_some_iff.mp hd).1
    omega
  refine ⟨hj, fun x H' ⟨y1, y2⟩ => ?_⟩
  subst y1 y2
  refine ⟨Gc, .refl s2, ?_⟩
  simp only [dnD, List.getElem?_map, List.getElem?_range hj, Option.map_some, Option.some.injEq] at hd
  subst hd
  rfl
def gRg3 : List D → Option (List D)
  | [.int i, .int j, .int c] => if c = -1 ∧ small62 i = true ∧ small62 j = true then some (dnD i (i - j).toNat) else none
  | _ => none
theorem di_rg3 {Fs : M (List D)} (hg : Gl X "range") (hm : X.mg "range" = none) (ha : DAs X W [a, b, c] Fs) (hs : starEach [a, b, c] X.env = (false, eval a X.env) :: starEach [b, c] X.env := by rfl)
    (hpl : (backTo pos (starEach [b, c] X.env)).any (·.1) = false := by rfl) : DI X W tg (.Call (.Name "range" p) [a, b, c] [] pos) (onI gRg3 Fs) :=
  PI.imp (pi_range3 hg hm ha hs hpl) fun σ H Q h => by
    refine tM_then (P1 := Reps (rc X)) h fun G1 env1 f1 ds vs H1 e p q => ?_
    obtain ⟨l, hl, q2⟩ := q.fin' e
    clear q
    unfold gRg3 at hl
    split at hl
    · rename_i i j c
      by_cases hb : c = -1 ∧ small62 i = true ∧ small62 j = true
      · rw [if_pos hb] at hl
        cases hl
        obtain ⟨rfl, b1, b2⟩ := hb
        obtain ⟨v, r, rfl, h1, h2⟩ := p
        obtain ⟨v', v'', rfl, h3, h4⟩ := Reps.two' h2
        have b1 := small62_iff.mp b1
        have b2 := small62_iff.mp b2
        exact ⟨i, j, -1, (i - j).toNat, by rw [show v = .int i from h1, show v' = .int j from h3, show v'' = .int (-1) from h4], RgC.neg (by omega) (by omega) (by omega) (by omega), q2 _ walk_dn⟩
      · rw [if_neg hb] at hl; cases hl
    · cases hl
end
end DL

namespace DL
open PySem PySem.Spec PyProof.Rows L2 PySem.W Builtin Builtin.ObjectAttr

/-! ### the two built-in bases: ValueError, KeyError -/
abbrev veBm : List Value := [.type "ValueError", .type "Exception", .type "BaseException", .type "object"]
abbrev keBm : List Value := [.type "KeyError", .type "LookupError", .type "Exception", .type "BaseException", .type "object"]
structure BaseX (B ini Bn newId : String) (bmB : List Value) : Prop where
  new : ∃ iniN bmN, ExcBaseFacts Bn newId iniN bmN
  ik : builtinKind ini = some .slot
  ir : Manifest.signature? ini = some ⟨.positional, "*", B, .self, [⟨"args", .varPos, false⟩]⟩
  ie : entryFor table ini = some Builtin.«BaseException.__init__»
  ip : plainId ini = true
  star : (B != "*") = true
  S : PySem.W.KxsFacts B ini
  pass : ∀ self : Value, refuseLoop self "__setattr__" bmB = pure ()
  obj : bmB.contains (.type "object") = true
  hB : bmB.contains (.type B) = true
  hBn : bmB.contains (.type Bn) = true
  hA : bmB.contains (.type "AttributeError") = false
  hN : bmB.contains (.type "NameError") = false
theorem ke_ie : entryFor table "KeyError.__init__" = some Builtin.«BaseException.__init__» := by
  refine entryFor_alias (id' := "BaseException.__init__") ?_ (by first | rfl | decide +kernel) (by decide +kernel) ?_
  · rw [fastTable_eq_tree]
    kernel_rfl
  · rw [fastTable_eq_tree]
    kernel_rfl
theorem bx_ve : BaseX "ValueError" "ValueError.__init__" "ValueError" "ValueError.__new__" veBm := by
  have F := PySem.F.excBase_ValueError
  refine ⟨⟨_, _, F⟩, F.initKind, F.initRow, F.initEntry, F.init.plain, F.noStar, PySem.W.kxs_ValueError, fun self => PySem.F.store_ValueError.passes self, ?_, ?_, ?_, ?_, ?_⟩
  all_goals decide +kernel
theorem ke_kxs : PySem.W.KxsFacts "KeyError" "KeyError.__init__" := ⟨by
  show builtinType _ = _
  rw [builtinType_eq_fast]
  kernel_rfl, by kernel_rfl⟩
theorem bx_ke : BaseX "KeyError" "KeyError.__init__" "LookupError" "LookupError.__new__" keBm := by
  refine ⟨⟨_, _, PySem.F.excBase_LookupError⟩, ?_, ?_, ke_ie, ?_, ?_, ke_kxs, fun self => by kernel_rfl, ?_, ?_, ?_, ?_, ?_⟩
  · kernel_rfl
  · kernel_rfl
  all_goals decide +kernel
/-- own classes, then the base's order -/
inductive Tl (bmB : List Value) : List Value → Prop where
  | base : Tl bmB bmB
  | own {C : Addr} {l : List Value} (h : Tl bmB l) : Tl bmB (.ref C :: l)
theorem Tl.pass {B ini Bn newId : String} {bmB : List Value} (bx : BaseX B ini Bn newId bmB) (self : Value) {l : List Value} (h : Tl bmB l) : refuseLoop self "__setattr__" l = pure () := by
  induction h with
  | base => exact bx.pass self
  | own h ih =>
    rw [refuseLoop_ref]
    exact ih
theorem Tl.has {bmB l : List Value} (h : Tl bmB l) (Y : String) : l.contains (.type Y) = bmB.contains (.type Y) := by
  induction h with
  | base => rfl
  | own h ih =>
    rw [List.contains_cons, ih]
    rfl
end DL

namespace DL
open PySem PySem.Spec Builtin Builtin.ObjectAttr

/-! ### C(..) : BaseException.__new__, then C's own __init__ -/
/-- what the class's order of bases holds -/
structure Ord (B Bn : String) (bm : List Value) : Prop where
  b : bm.contains (.type B) = true
  n : bm.contains (.type Bn) = true
  a : bm.contains (.type "AttributeError") = false
  m : bm.contains (.type "NameError") = false
theorem Tl.ord {B ini Bn newId : String} {bmB bm : List Value} (bx : BaseX B ini Bn newId bmB) (h : Tl bmB bm) : Ord B Bn bm := ⟨(h.has _).trans bx.hB, (h.has _).trans bx.hBn, (h.has _).trans bx.hA, (h.has _).trans bx.hN⟩
section
variable {M : Model} {A : Around} {E : Value → Shared → Prop} {h : Heap} {g : Array GenState} {dr : Drawn} {tk : Nat} {os : OsState}
variable {nm qn : Str} {C N : Addr} {bs bm bmN : List Value} {hd : Bool} {sn : List Str} {sub : List Value} {ab : Bool} {col : Option Bool} {dd : Option Addr} {k0 k1 k2 k3 k5 : Option Value} {Bn newId iniN : String}
abbrev XCls (h : Heap) (nm qn : Str) (C N : Addr) (bs bm : List Value) (hd : Bool) (sn : List Str) (sub : List Value) (ab : Bool) (col : Option Bool) (dd : Option Addr) (k0 k1 k2 k3 k5 : Option Value) (newId : String) : Prop :=
  h.get? C = some (excClassObj nm qn C N bs bm hd sn sub ab col dd k0 k1 k2 k3 k5 newId)
theorem xnew_check (F : ExcBaseFacts Bn newId iniN bmN) (hb : bm.contains (.type Bn) = true) {us : List Value} {kws : List (Str × Value)} {Q : Unit → Shared → Prop}
    (cl : XCls h nm qn C N bs bm hd sn sub ab col dd k0 k1 k2 k3 k5 newId) (z : Q () ⟨h, g, dr, tk, os⟩) : wpAny M A (checkBuiltinCall newId ⟨.ref C :: us, kws⟩) Q E ⟨h, g, dr, tk, os⟩ := by
  have e1 : (Value.ref C :: bm).contains (.type Bn) = true := by
    rw [List.contains_cons, hb, Bool.or_true]
  have e2 := F.noStar
  simp only [checkBuiltinCall, F.newKind, F.newSplit, F.newRow]
  repeat (first
    | refine wpAny_loadPart_at cl ?_
    | (refine PySem.wpAny_isSubtype_exc cl ?_
       rw [e1])
    | refine wpAny_staticBase_exc cl ?_
    | refine wpAny_madeBy_exc cl ?_
    | simp only [bne_self_eq_false, Bool.false_eq_true, if_false]
    | wp_step)
  exact z
end
section
variable {prog : Program} {w : World} {A : Around} {E : Value → Shared → Prop} {R : Result → Shared → Prop} {h : Heap} {g : Array GenState} {dr : Drawn} {tk : Nat} {os : OsState}
variable {nm qn : Str} {C N : Addr} {bs bm bmN : List Value} {hd : Bool} {sn : List Str} {sub : List Value} {ab : Bool} {col : Option Bool} {dd : Option Addr} {k0 k1 k2 k3 k5 : Option Value} {B Bn newId iniN : String}
theorem xnew_code (F : ExcBaseFacts Bn newId iniN bmN) (o : Ord B Bn bm) {us : List Value} {kws : List (Str × Value)} (cl : XCls h nm qn C N bs bm hd sn sub ab col dd k0 k1 k2 k3 k5 newId)
    (z : R (.ok (.ret (.ref (h.objs.size + 1)))) ⟨(h.push (PySem.W.kdv_tup us)).push (PySem.HandSPX.excO C h.objs.size), g, dr, tk, os⟩) (hu : us.length ≤ sizeLine) :
    codeAny (model prog w) A (.builtin newId ⟨.ref C :: us, kws⟩) R ⟨h, g, dr, tk, os⟩ := by
  have e0 := F.ends
  have e1 : (Value.ref C :: bm).contains (.type Bn) = true := by
    rw [List.contains_cons, o.n, Bool.or_true]
  have e2 : (Value.ref C :: bm).contains (.type "AttributeError") = false := by
    rw [List.contains_cons, o.a]
    rfl
  have e3 : (Value.ref C :: bm).contains (.type "NameError") = false := by
    rw [List.contains_cons, o.m]
    rfl
  refine codeAny_builtinAt F.entry ?_
  unfold Builtin.«BaseException.__new__»
  refine wpAt_bind ?_
  show wpAt _ _ _ (stack >>= _) _ _ _
  refine wpAt_bind (wpAt_stack fun p below => wpAt_of_wpAny ?_)
  wp_walk
  refine wpAt_of_wpAny ?_
  rw [F.owner]
  repeat (first
    | with_reducible refine wpAny_madeHere_exc F.canon cl ?_
    | with_reducible refine wpAny_loadPart_at cl ?_
    | (with_reducible refine PySem.wpAny_isSubtype_exc cl ?_
       first
       | rw [e1]
       | rw [e2]
       | rw [e3])
    | wp_step)
  show R _ _
  rw [Heap.size_push]
  exact z
theorem xtype_call (F : ExcBaseFacts Bn newId iniN bmN) (o : Ord B Bn bm) {us : List Value} {kws : List (Str × Value)} {fI : Addr} {Q : Fin → Shared → Prop} (cl : XCls h nm qn C N bs bm hd sn sub ab col dd k0 k1 k2 k3 k5 newId)
    (li : PySem.W.Looks (model prog w) h (typeLookup (.ref C) "__init__") (some (.ref fI))) (lb : ∀ x, PySem.W.Looks (model prog w) h (bindSpecial (.ref fI) x) (.ref fI, [x])) (hu : us.length ≤ sizeLine)
    (z : codeAny (model prog w) A (.call (.ref fI) ⟨.ref (h.objs.size + 1) :: us, kws⟩) (fun r s' => match r with
      | .ok (.ret v) => v = .none ∧ Q (.done (.ret (.ref (h.objs.size + 1)))) s'
      | .ok _ => False
      | .error e => E e s') ⟨(h.push (PySem.W.kdv_tup us)).push (PySem.HandSPX.excO C h.objs.size), g, dr, tk, os⟩) :
    wpAny (model prog w) A (Builtin.«type.__call__» ⟨.ref C :: us, kws⟩) Q E ⟨h, g, dr, tk, os⟩ := by
  repeat (first
    | with_reducible refine wpAny_loadPart_at cl ?_
    | with_reducible refine wpAny_madeBy_exc cl ?_
    | wp_step)
  refine codeAny_call_builtin_code (Code.quiet_builtin _ F.quiet) (xnew_check F o.n cl ?_)
  refine xnew_code F o cl ?_ hu
  show wpAny _ _ _ _ _ _
  have up : ∀ b u, h.get? b = some u → ((h.push (PySem.W.kdv_tup us)).push (PySem.HandSPX.excO C h.objs.size)).get? b = some u := fun b u e => Heap.get?_push_of_some _ (Heap.get?_push_of_some _ e)
  have cl2 := up _ _ cl
  have it : ((h.push (PySem.W.kdv_tup us)).push (PySem.HandSPX.excO C h.objs.size)).get? (h.objs.size + 1) = some (PySem.HandSPX.excO C h.objs.size) := by heap_get
  have cc : (Value.ref C :: bm).contains (.ref C) = true := by simp
  have li2 := li.keeps up
  have lb2 := (lb (.ref (h.objs.size + 1))).keeps up
  unfold isInstance
  repeat (first
    | with_reducible refine wpAny_loadPart_at it ?_
    | (with_reducible refine PySem.wpAny_isSubtype_exc cl2 ?_
       rw [cc])
    | wp_step)
  show wpAny _ _ (typeLookup (.ref C) _) _ _ _
  refine li2.at ?_
  refine wpAny_holding (wpAny_bind (lb2.at ?_))
  refine wpAny_bind (wpAny_call (codeAny_mono z fun r s' y => ?_))
  cases r with
  | error e => exact y
  | ok fl =>
    cases fl with
    | ret v =>
      obtain ⟨rfl, y⟩ := y
      first
        | exact wpAny_pure (wpAny_pure y)
        | (wp_walk <;> exact y)
    | next => exact y.elim
    | brk => exact y.elim
    | cont => exact y.elim
theorem xcls_call (F : ExcBaseFacts Bn newId iniN bmN) (o : Ord B Bn bm) {us : List Value} {kws : List (Str × Value)} {fI : Addr} (cl : XCls h nm qn C N bs bm hd sn sub ab col dd k0 k1 k2 k3 k5 newId)
    (li : PySem.W.Looks (model prog w) h (typeLookup (.ref C) "__init__") (some (.ref fI))) (lb : ∀ x, PySem.W.Looks (model prog w) h (bindSpecial (.ref fI) x) (.ref fI, [x])) (hu : us.length ≤ sizeLine)
    (z : codeAny (model prog w) (A.under (.builtin "type.__call__" ⟨.ref C :: us, kws⟩)) (.call (.ref fI) ⟨.ref (h.objs.size + 1) :: us, kws⟩) (PySem.W.InitBack (h.objs.size + 1) R) ⟨(h.push (PySem.W.kdv_tup us)).push (PySem.HandSPX.excO C h.objs.size), g, dr, tk, os⟩) :
    codeAny (model prog w) A (.call (.ref C) ⟨us, kws⟩) R ⟨h, g, dr, tk, os⟩ := by
  have f1 := tc_lookup
  have f2 := tc_bind (.ref C)
  have f3 : (⟨h, g, dr, tk, os⟩ : Shared).TypeIs (.ref C) "type" := ⟨_, cl, rfl⟩
  refine codeAny_of_tree ?_
  show wpAny _ _ (callAny (.ref C) _) _ _ _
  repeat (any_goals (first
    | assumption
    | with_reducible refine wpAny_loadPart_at cl ?_
    | wp_step))
  refine ⟨rfl, codeAny_call_builtin_at (Code.quiet_builtin _ (by decide +kernel)) entry_typeCall (wpAny_check_type_call_sub cl (xtype_call F o cl li lb hu ?_))⟩
  refine codeAny_mono z fun r s' y => ?_
  rcases r with e | (v | _ | _ | _) <;> exact y
end
end DL

namespace DL
open PySem PySem.Spec PySem.W Builtin Builtin.ObjectAttr

/-- an own exception class, as it is written: __init__(n0, n1): super().__init__('..'); n0.f = n1 -/
structure ExP (prog : Program) (K : Frag) (C : Addr) (f : Str) (B ini Bn newId : String) (bmB : List Value) (fI : Addr) : Prop where
  bx : BaseX B ini Bn newId bmB
  cls : ∃ nm qn N bs bm sn sub ab col dd k0 k1 k2 k3 k5, K.lookup C = some (excClassObj nm qn C N bs bm true sn sub ab col dd k0 k1 k2 k3 k5 newId) ∧ Tl bmB bm
  sa : findIn K (.ref C) "__setattr__" = some (some (.builtin "object.__setattr__"))
  no : findIn K (.ref C) f = some none
  exC : subIn K (.ref C) (.type "BaseException") = some true
  exB : subIn K (.ref C) (.type B) = some true
  tyC : typeIn K (.ref C) = some (.type "type")
  kC : keepIn K (.ref C) = true
  self : mroIn K C (.ref C) = some true
  sup : ks_superIn K C C "__init__" = some (some (.builtin ini))
  opq : nsIn K cStatics "thirdparty.any" = some none
  iC : findIn K (.ref C) "__init__" = some (some (.ref fI))
  tI : typeIn K (.ref fI) = some (.type "function")
  top : (prog.main.scope.names.lookup ("super" : Str)).isSome = false
  fn : ∃ (oc ccl cl : Value) (od cdd cld : Option Addr) (osl ccs csl : Array (Option Value)) (qual name n0 n1 : Str) (params : Arguments) (body : List Stmt) (scope : Scope) (dV kV doc pm : Value) (an : Option Addr) (ct : Value) (cc cda : Addr) (vs : Array Value) (file : Str) (tf : Tok) (m : Str)
      (j : Nat) (p0 p1 p2 p3 p4 p5 p6 p7 p8 p9 : Pos),
    K.lookup fI = some ⟨oc, od, .func (ksFn name qual params body scope dV kV doc pm an (.ref cda) ct cc), osl⟩ ∧ codeIn K (.ref cda) qual = true ∧
    K.lookup cda = some ⟨ccl, cdd, .fields vs, ccs⟩ ∧ vs[2]? = some (.str file tf) ∧ ((prog.main.file : Str) == file) = true ∧ K.lookup cc = some ⟨cl, cld, .cell (some (.ref C)), csl⟩ ∧
    (∃ ar, (params.posonlyargs ++ params.args).head? = some ar ∧ ar.arg = n0) ∧
    (∀ (s : Shared) (u v : Value), BindsTo s (ksFn name qual params body scope dV kV doc pm an (.ref cda) ct cc) ⟨[u, v], []⟩ [(n0, u), (n1, v)]) ∧
    (∀ (s : Shared) (u v : Value), BindsTo s (ksFn name qual params body scope dV kV doc pm an (.ref cda) ct cc) ⟨[u], [(n1, v)]⟩ [(n0, u), (n1, v)]) ∧ n1 = f ∧
    body = [.Expr (.Call (.Attribute (.Call (.Name "super" p0) [] [] p1) "__init__" p2) [.Constant (.str m) j p3] [] p4) p5, .Assign [.Attribute (.Name n0 p6) f p7] (.Name n1 p8) p9] ∧
    scope.names.lookup ("super" : Str) = some .globalImplicit ∧ scope.names.lookup ("__class__" : Str) = some .free ∧ scope.names.lookup n0 = some .local ∧ scope.names.lookup n1 = some .local ∧
    (p2.endLine == p4.line) = true ∧ (n0 == n1) = false ∧ (n0 == ("__debug__" : Str)) = false ∧ (n1 == ("__debug__" : Str)) = false ∧ (∀ x ∈ scope.names, x.2 ≠ .cell) ∧ scope.isCoroutine = false ∧ scope.isGenerator = false ∧ scope.kind = .function
section
variable {M : Model} {A : Around} {E : Value → Shared → Prop} {h : Heap} {g : Array GenState} {dr : Drawn} {tk : Nat} {os : OsState}
variable {nm qn : Str} {C N : Addr} {bs bm bmB : List Value} {hd : Bool} {sn : List Str} {sub : List Value} {ab : Bool} {col : Option Bool} {dd : Option Addr} {k0 k1 k2 k3 k5 : Option Value} {B ini Bn newId : String}
theorem xini_check (bx : BaseX B ini Bn newId bmB) {e : Addr} {oe : Obj} {us : List Value} {Q : Unit → Shared → Prop} (cl : XCls h nm qn C N bs bm hd sn sub ab col dd k0 k1 k2 k3 k5 newId) (he : h.get? e = some oe) (hc : oe.cls = .ref C)
    (z : Q () ⟨h, g, dr, tk, os⟩) : wpAny M A (checkBoundCall ini ⟨.ref e :: us, []⟩) Q E ⟨h, g, dr, tk, os⟩ := by
  have star := bx.star
  simp only [checkBoundCall, bx.ik, bx.ir]
  repeat (first
    | (with_reducible refine wpAny_loadPart_at he ?_
       rw [hc])
    | with_reducible refine wpAny_loadPart_at cl ?_
    | wp_step)
  refine wpAny_onRaise ?_
  have e : ∀ (a b : String) (n : Nat), Bind.check ⟨.positional, "*", B, .self, [⟨"args", .varPos, false⟩]⟩ a b n (List.map (fun x => x.fst) ({ pos := Value.ref e :: us } : Args).kw) = pure () := fun a b n => check_star_args _ _ _ _ _ _
  rw [e]
  exact wpAny_pure z
end
section
variable {prog : Program} {w : World} {A : Around} {E : Value → Shared → Prop} {R : Result → Shared → Prop} {h : Heap} {g : Array GenState} {dr : Drawn} {tk : Nat} {os : OsState}
variable {nm qn : Str} {C N : Addr} {bs bm bmB : List Value} {hd : Bool} {sn : List Str} {sub : List Value} {ab : Bool} {col : Option Bool} {dd : Option Addr} {k0 k1 k2 k3 k5 : Option Value} {B ini Bn newId : String}
/-- the bound __init__, called -/
theorem xini_call (bx : BaseX B ini Bn newId bmB) {u e t0 : Addr} {us : List Value} {Q : Value → Shared → Prop} (cl : XCls h nm qn C N bs bm hd sn sub ab col dd k0 k1 k2 k3 k5 newId) (hu : h.get? u = some (kxs_mw ini e)) (he : h.get? e = some (PySem.HandSPX.excO C t0)) (hz : us.length ≤ sizeLine)
    (z : ∀ h' t1, (∀ b o, b ≠ e → h.get? b = some o → h'.get? b = some o) → h'.get? e = some (PySem.HandSPX.excO C t1) → Q .none ⟨h', g, dr, tk, os⟩) :
    wpAny (model prog w) A (call (.ref u) us) Q E ⟨h, g, dr, tk, os⟩ := by
  refine wpAny_call (codeAny_of_tree ?_)
  show wpAny _ A.in1 (callAny (.ref u) ⟨us, []⟩) _ _ _
  simp only [callAny]
  refine wpAny_bind (wpAny_load hu ?_)
  have isM : (Value.type "method-wrapper" == Value.type "method" || Value.type "method-wrapper" == Value.type "builtin_function_or_method" || Value.type "method-wrapper" == Value.type "method-wrapper") = true := by decide
  simp only [kxs_mw, isM, if_true]
  refine KFB.if_so (by decide) ?_
  refine wpAny_bind (xini_check bx cl he rfl (wpAny_bind (wpAny_pure (wpAny_pure ⟨plainId_quiet bx.ip _, codeAny_builtin bx.ie ?_⟩))))
  exact exc_init_tree (cls := .ref C) (t0 := t0) (dv := none) (c2 := .none) (c3 := .none) (b4 := .bool false) he hz fun h' k y _ => z h' _ k y
/-- e.f = v on an exception that has no dict yet -/
theorem xset (bx : BaseX B ini Bn newId bmB) {K : Frag} {f : Str} {v : Value} {x : Addr} {fv : Array Value} {cd : ClassData} {Q : Unit → Shared → Prop} (X : K.In h) (hx : h.get? x = some { cls := .ref C, data := .fields fv }) (hcd : clsIn K C = some cd) (hm : Tl bmB cd.mro) (hh : cd.hasDict = true)
    (no : findIn K (.ref C) f = some none) (sa : findIn K (.ref C) "__setattr__" = some (some (.builtin "object.__setattr__")))
    (z : ∀ h' tk' dx, (∀ b o, b ≠ x → h.get? b = some o → h'.get? b = some o) → h.objs.size ≤ dx → dx ≠ x → h'.get? x = some { cls := .ref C, dict := some dx, data := .fields fv } → h'.Ns1 dx (fun y => if y = f then some v else none) → Q () ⟨h', g, dr, tk', os⟩) :
    wpAny (model prog w) A (setAttr (.ref x) f v) Q E ⟨h, g, dr, tk, os⟩ := by
  have I : InstAt h x { cls := .ref C, data := .fields fv } C none := ⟨hx, rfl, rfl, trivial⟩
  refine set_plain (s := ⟨h, g, dr, tk, os⟩) X I sa ?_
  have SF := F.store_object
  have e1 : cd.mro.contains (.type "object") = true := (hm.has "object").trans bx.obj
  have e2 : cd.mro.isEmpty = false := by
    cases q : cd.mro with
    | nil =>
      rw [q] at e1
      cases e1
    | cons a r => rfl
  have nx : x ≠ h.objs.size := Nat.ne_of_lt (Heap.lt_size hx)
  have isO : Looks (model prog w) h (isInstance (.ref x) (.type "object")) true := I.type.andThen (looks_mroIn X (by
    unfold mroIn
    rw [hcd, Option.bind_some, if_neg (by rw [e2]; decide), e1]))
  refine codeAny_call_builtin SF.slot.plain SF.entry (@check_slot (model prog w) _ _ ⟨h, g, dr, tk + 1, os⟩ "object.__setattr__" "object" "__setattr__" (.ref x) [.str f tk, v] [] _ SF.kind SF.split isO (SF.args (.ref x) (.str f tk) v) ?_)
  have lm : Looks (model prog w) h (mroOf (.ref C)) cd.mro := (looks_clsIn X hcd).andThen .now
  have lt : Looks (model prog w) h (storeTaker? none) none := .now
  have lc : Looks (model prog w) h (classData C) cd := looks_clsIn X hcd
  rw [osa_eq, refuse_eq]
  refine wpAny_bind (wpAny_bind (I.type.at (wpAny_bind (lm.at ?_))))
  rw [hm.pass bx]
  refine wpAny_pure (wpAny_bind (I.type.at (wpAny_bind ((looks_findIn X no).at (wpAny_bind (lt.at ?_))))))
  show wpAny _ _ (storeInOwnDict (.ref x) (.ref C) (.str f tk) f v false) _ _ _
  obtain ⟨nm', bs', mro', ns', qn', hd', sn', sb', ab', col', del'⟩ := cd
  dsimp only at hh
  subst hh
  unfold storeInOwnDict ownDictForStores
  repeat (first
    | with_reducible refine PySem.HandSPX.store_in_new ?_ ?_
    | with_reducible refine wpAny_loadPart_at hx ?_
    | with_reducible refine lc.at ?_
    | wp_step)
  · exact ⟨_, #[], _, (Heap.get?_update_ne _ _ _ _ nx.symm).trans (Heap.get?_push_at rfl rfl), rfl, fun e he => absurd he (by simp), fun _ => rfl⟩
  · intro h' tk' ns sb
    have hx2 : (h.push { cls := .type "dict", data := .dict #[] }).get? x = some { cls := .ref C, data := .fields fv } := Heap.get?_push_of_some _ hx
    refine z h' tk' h.objs.size (fun b o hb ho => ?_) (Nat.le_refl _) nx.symm ?_ ns
    · exact (sb.2 b (Nat.ne_of_lt (Heap.lt_size ho))).trans ((Heap.get?_update_ne _ _ _ _ hb).trans (Heap.get?_push_of_some _ ho))
    · exact (sb.2 x nx).trans (Heap.get?_update_self _ hx2 rfl)
end
end DL

namespace DL
open PySem PySem.Spec PySem.W Builtin Builtin.ObjectAttr

theorem eval_sup (env : Env) (o : Expr) (f : Str) (m : Str) (j : Nat) (p2 p3 p4 : Pos) (h : (p2.endLine == p4.line) = true) : eval (.Call (.Attribute o f p2) [.Constant (.str m) j p3] [] p4) env = (do
      let ov ← attributeBase o f env (eval o env)
      standAt p2.atName
      let (f, first) ← holding [ov] (getMethod ov f (do return (← importBound o env).getD true))
      callWith p4 f first (backTo p4 (starEach [.Constant (.str m) j p3] env)) []) := by
  show (do
    let ov ← attributeBase o f env (eval o env)
    standAt p2.atName
    methodCall o f p2 p4 env ov 1 (backTo p4 (starEach [.Constant (.str m) j p3] env)) []) = _
  have e1 : methodCallForm 1 (backTo p4 (starEach [.Constant (.str m) j p3] env)) [] = true := by rfl
  unfold methodCall methodCallPos calleeOf
  rw [e1, h]
  simp only [Bool.not_true, Bool.false_or, if_true, pure_bind]
section
variable {prog : Program} {w : World} {A : Around} {R : Result → Shared → Prop} {s : Shared} {K : Frag} {C fI x t0 : Addr} {f : Str} {B ini Bn newId : String} {bmB : List Value} {v : Value} {mg mb : Str → Option Value}
theorem xini_run (T : ExP prog K C f B ini Bn newId bmB fI) (X : K.In s.heap) (kx : ∀ b o, K.lookup b = some o → b ≠ x) (room : A.depth < recursionLimit) (lim : s.heap.NoLimit) (hg : s.heap.Ns mainGlobals mg) (gS : mg "super" = none) (hb : s.heap.Ns builtinsNs mb) (bS : mb "super" = some (.type "super"))
    (hx : s.heap.get? x = some (PySem.HandSPX.excO C t0))
    (z : ∀ h' tk' dx t1, (∀ b o, b ≠ x → s.heap.get? b = some o → h'.get? b = some o) → s.heap.objs.size ≤ dx → dx ≠ x → h'.get? x = some { cls := .ref C, dict := some dx, data := .fields #[.ref t1, .none, .none, .none, .bool false, .none] } →
      h'.Ns1 dx (fun y => if y = f then some v else none) → R (.ok (.ret .none)) { s with heap := h', toks := tk' })
    {al : Args} (hal : al = ⟨[.ref x, v], []⟩ ∨ al = ⟨[.ref x], [(f, v)]⟩) : codeAny (model prog w) A (.call (.ref fI) al) R s := by
  obtain ⟨nm, qn, N, bs, bm, sn, sub, ab, col, dd, k0, k1, k2, k3, k5, hC, hbm⟩ := T.cls
  obtain ⟨oc, ccl, cl, od, cdd, cld, osl, ccs, csl, qual, name, n0, n1, params, body, scope, dV, kV, doc, pm, an, ct, cc, cda, vs, file, tf, m, j, p0, p1, p2, p3, p4, p5, p6, p7, p8, p9, hfI, hcode, hcda, hvs, hfile, hcc, ⟨ar, har, hn0⟩, bind, bindK, en1, rfl, sS, sC, s0, s1, hp24, n01, nd0, nd1, nocell, isco, isgen, iskind⟩ := T.fn
  subst hn0
  have hcl : clsIn K C = some { name := nm, bases := bs, mro := .ref C :: bm, ns := N, qualname := qn, hasDict := true, slotNames := sn, subclasses := sub, abstract := ab, collection := col, hasDel := false } := by
    unfold clsIn
    rw [hC] <;> rfl
  have xC : x ≠ C := fun e => by
    have y := X _ _ hC
    rw [← e, hx] at y
    cases y
  refine ks_codeAny_call_defAt (binds := [(ar.arg, .ref x), (n1, v)]) room (X _ _ hfI) rfl lim (codeRec_of X hcode) rfl (by
    rcases hal with e | e
    · rw [e]; exact bind _ _ _
    · rw [e, ← en1]; exact bindK _ _ _) nocell ?_ (fun h₁ hns hk₁ => ?_) isco isgen iskind
  · intro y hy
    rcases List.mem_cons.mp hy with e | hy
    · rw [e]; exact s0
    · rw [List.mem_singleton.mp hy]; exact s1
  have e0 : ([(ar.arg, Value.ref x), (n1, v)] : List (Str × Value)).reverse.lookup ar.arg = some (.ref x) := by
    show (match ar.arg == n1 with | true => some v | false => (match ar.arg == ar.arg with | true => some (Value.ref x) | false => none)) = _
    rw [n01, beq_self_eq_true]
  have e1 : ([(ar.arg, Value.ref x), (n1, v)] : List (Str × Value)).reverse.lookup n1 = some v := by
    show (match n1 == n1 with | true => some v | false => _) = _
    rw [beq_self_eq_true]
  have hx1 := hk₁ _ _ hx
  have X1 : K.In h₁ := X.keeps hk₁
  refine ks_wpAt_execs_cons (ks_wpAt_Expr_any (hi := by unfold interactive; dsimp only [callEnv, newEnv, ksFn, fnX]; rw [iskind]; rfl) (ks_wpAt_MethodCall ?_ (eval_sup _ _ _ _ _ _ _ _ hp24)))
  refine ks_wpAt_super_base sS sC rfl rfl (X1 _ _ hfI) rfl har rfl (X1 _ _ hcda) rfl hvs hfile T.top ?_
  refine ks_loadName_global iskind sS (PySem.Calls.loadGlobal_builtin (hg.keeps hk₁) gS (hb.keeps hk₁) bS ⟨rfl, ?_⟩)
  refine wpAny_loadName_free iskind sC rfl ⟨_, X1 _ _ hcc, rfl⟩ ?_
  refine wpAny_loadName_local iskind s0 hns e0 ?_
  refine ks_wpAny_isType_cls (X1 _ _ hC) rfl ⟨rfl, ?_⟩
  refine ks_wpAny_call_super (X1 _ _ hC) rfl hx1 rfl (fun c e => by cases e) (looks_mroIn X1 T.self) (fun h2 so k2 => ?_)
  have X2 : K.In h2 := X1.keeps k2
  have hx2 := k2 _ _ hx1
  have isB : Looks (model prog w) h2 (isInstance (.ref x) (.type B)) true := (show InstAt h2 x _ C none from ⟨hx2, rfl, rfl, trivial⟩).type.andThen (looks_subIn X2 T.exB)
  have sup := T.sup
  unfold ks_superIn at sup
  rw [hcl] at sup
  refine kxs_getMethod T.bx.S so (looks_opaque X2 T.opq) (l₀ := .ref C :: bm) (fun A Q E s k q => wpAny_bind ((looks_clsIn X2 hcl) A _ E s k (wpAny_pure q))) rfl X2 sup isB xC rfl ?_
  refine kxs_callWith (i := ini) (x := x) rfl (PySem.Calls.evalArgs_plain (PyProof.Rows.spliced_more (PySem.Calls.Constant_str (PyProof.Rows.spliced_none ⟨?_, ?_⟩))))
  · exact Heap.get?_push_at rfl rfl
  have k3 : ∀ b o, h2.get? b = some o → (h2.push (kxs_mw ini x)).get? b = some o := fun b o e => Heap.get?_push_of_some _ e
  have X3 := X2.keeps k3
  have hx3 := k3 _ _ hx2
  refine xini_call T.bx (X3 _ _ hC) (Heap.get?_push_at rfl rfl) hx3 (by rw [sizeLine_eq]; exact Nat.le_add_left 1 _) fun h4 t1 k4 hx4 => ?_
  have X4 : K.In h4 := fun b o e => k4 b o (kx b o e) (X3 b o e)
  have nL : s.heap.objs.size ≠ x := fun z => by
    have y := Heap.lt_size hx
    rw [← z] at y
    exact absurd y (Nat.lt_irrefl _)
  have ns4 : h4.Ns s.heap.objs.size (fun y => ([(ar.arg, Value.ref x), (n1, v)] : List (Str × Value)).reverse.lookup y) := by
    obtain ⟨o, es, ep, ho, hr⟩ := hns
    exact ⟨o, es, ep, k4 _ _ nL (k3 _ _ (k2 _ _ ho)), hr⟩
  refine ks_wpAt_execs_cons (ks_wpAt_Assign_Attr ?_ rfl)
  refine wpAt_of_wpAny (wpAny_Name ?_ nd1)
  refine wpAny_loadName_local iskind s1 ns4 e1 ?_
  refine wpAny_Name ?_ nd0
  refine wpAny_loadName_local iskind s0 ns4 e0 ?_
  refine xset T.bx X4 hx4 hcl (.own hbm) rfl T.no T.sa fun h5 tk5 dx k5' ge ne hx5 hns5 => ?_
  refine wpAt_of_wpAny (wpAny_execs_nil ?_)
  have kk : ∀ b o, b ≠ x → s.heap.get? b = some o → h4.get? b = some o := fun b o hb e => k4 b o hb (k3 _ _ (k2 _ _ (hk₁ _ _ e)))
  refine z h5 tk5 dx t1 (fun b o hb e => k5' b o hb (kk b o hb e)) ?_ ne hx5 hns5
  obtain ⟨o4, _, _, ho4, _⟩ := ns4
  exact Nat.le_trans (Nat.le_of_lt (Heap.lt_size ho4)) ge
end
end DL

namespace DL
open PySem PySem.Spec PyProof.Rows L2
variable [LT]

/-- an own exception class -/
def ExI (prog : Program) (K : PySem.W.Frag) (C : Addr) (f : Str) : Prop := ∃ B ini Bn newId bmB fI, ExP prog K C f B ini Bn newId bmB fI
section
variable {X : Cx} {C : Addr} {f x : Str} {e : Expr} {te : TE} {p pos : Pos}
/-- C(e) -/
def tMk (C : Addr) (f : Str) (te : TE) : L2.St → Hp → XK → Prop := fun σ H Q => te σ H fun y H1 => ∀ dx, H1 dx = none → Q (.ref C) (some dx) (upd H1 dx (.xd [(f, y)]))
theorem relO_one {f : Str} {y : V} {u : Value} (r : RelV y u) : ∀ g, RelO (([(f, y)] : List (Str × V)).lookup g) (if g = f then some u else none) := fun g => by
  by_cases h : g = f
  · subst h
    simp [List.lookup]
    exact r
  · have e : (g == f) = false := by simpa using h
    rw [if_neg h]
    simp [List.lookup, e]
    exact True.intro
theorem pmk_x (T : ExI X.prog X.K C f) (gs : X.mg "super" = none) (hr : Room 1 X.A) (hg : Gl X x) (hm : X.mg x = some (.ref C)) (he : PE X e te) (hdb : (x == ("__debug__" : Str)) = false := by decide)
    (hs : starEach [e] X.env = (false, eval e X.env) :: starEach [] X.env := by rfl) (hpl : (backTo pos (starEach [] X.env)).any (·.1) = false := by rfl) : PMk X (.Call (.Name x p) [e] [] pos) (tMk C f te) := by
  obtain ⟨B, ini, Bn, newId, bmB, fI, T⟩ := T
  intro pins s σ H Q I h
  obtain ⟨nm, qn, N, bs, bm, sn, sub, ab, col, dd, k0, k1, k2, k3, k5, hC, hbm⟩ := T.cls
  obtain ⟨iniN, bmN, F⟩ := T.bx.new
  refine wpAny_Call_Name_kw (ld_glob I hg hm ?_ hdb)
  refine PySem.W.callWith_K (h₀ := X.base) I.ok.mod.kin T.kC (spliced_more (thn (he.run pins s σ H _ I h) fun u s1 ⟨y, H1, I1, r1, q⟩ => spliced_none ⟨I1.kIn, ?_⟩) hs) hs hpl
  show wpAny _ _ (call (.ref C) [u]) _ _ _
  obtain ⟨mb, b1, b2⟩ := I1.mod.blt
  have g1 := I1.mod.glob.keeps I1.bk
  have g2 := b1.keeps I1.bk
  have g3 := I1.mod.nolimit.keeps I1.bk
  have kin := I1.kIn
  have bare := I1.bare
  obtain ⟨hp, g, dr, tk, os⟩ := s1
  have up : ∀ b o, hp.get? b = some o → ((hp.push (PySem.W.kdv_tup [u])).push (PySem.HandSPX.excO C hp.objs.size)).get? b = some o := fun b o e => Heap.get?_push_of_some _ (Heap.get?_push_of_some _ e)
  have it : ((hp.push (PySem.W.kdv_tup [u])).push (PySem.HandSPX.excO C hp.objs.size)).get? (hp.objs.size + 1) = some (PySem.HandSPX.excO C hp.objs.size) := by heap_get
  have old : ∀ {b : Addr} {o : Obj}, hp.get? b = some o → b ≠ hp.objs.size + 1 := fun {b o} e => Nat.ne_of_lt (Nat.lt_succ_of_lt (Heap.lt_size e))
  refine wpAny_call (xcls_call F (hbm.ord T.bx) (kin _ _ hC) (PySem.W.looks_findIn kin T.iC) (fun z => PySem.W.bind_fn kin z T.tI) (by rw [sizeLine_eq]; exact Nat.le_add_left 1 _) ?_)
  refine xini_run T (kin.keeps up) (fun b o e => old (kin _ _ e)) ((hr.make C [u] []).depth) (g3.keeps up) (g1.keeps up) gs (g2.keeps up) ((b2 _ (by decide)).trans (by decide +kernel)) it (fun h' tk' dx t1 k ge ne hx hn => ?_) (.inl rfl)
  refine ⟨rfl, ?_⟩
  obtain ⟨G, gk, gn⟩ := restrict h' fun b => decide (b ≠ hp.objs.size + 1)
  have gk2 : ∀ b, b ≠ hp.objs.size + 1 → G.get? b = h'.get? b := fun b hb => gk b (decide_eq_true hb)
  have ga : G.get? (hp.objs.size + 1) = none := gn _ (by simp)
  have geq : hp.objs.size ≤ dx := by
    refine Nat.le_trans ?_ ge
    rw [Heap.size_push, Heap.size_push]
    exact Nat.le_trans (Nat.le_succ _) (Nat.le_succ _)
  have J := I1.laid (t' := tk') (a := dx) (o := .xd [(f, y)]) (h' := G) (fun b o e => (gk2 b (old e)).trans (k b o (old e) (up b o e))) geq
    ⟨_, hn.at fun o z => (gk2 dx ne).trans z, relO_one r1⟩
  refine ⟨hp.objs.size + 1, _, _, ⟨G, g, dr, tk', os⟩, upd H1 dx (.xd [(f, y)]), .ref C, some dx, rfl, J, fun b o z => ?_, ga, hx, ⟨rfl, rfl⟩, rfl, rfl, ?_, rfl, bare, raises_own T.exC T.tyC, q dx (I1.hok.fresh geq)⟩
  · by_cases hb : b = hp.objs.size + 1
    · rw [hb, ga] at z
      cases z
    · exact (gk2 b hb).symm.trans z
  · rw [upd_ne ne.symm]
    exact I1.hok.fresh (Nat.le_succ _)
end
/-! ### raise C(e) -/
section
variable {X : Cx} {W : WX} {Pr : Nat → Bool} {C : Addr} {f x : Str} {a : Expr} {Fa : M D} {p pos pos2 : Pos}
def raiseS (x f : Str) (Fa : M D) : MS := bndS Fa fun d e => .ex ⟨x, f, d⟩ e
theorem ds_raise (hc : X.calm = true) (tk : Takes X W) (T : ExI X.prog X.K C f) (gs : X.mg "super" = none) (hr : Room 1 X.A) (hg : Gl X x) (hm : X.mg x = some (.ref C)) (ha : DE X W a Fa) (hdb : (x == ("__debug__" : Str)) = false := by decide)
    (hs : starEach [a] X.env = (false, eval a X.env) :: starEach [] X.env := by rfl) (hpl : (backTo pos (starEach [] X.env)).any (·.1) = false := by rfl) : DS X W Pr (.Raise (some (.Call (.Name x p) [a] [] pos)) none pos2) (raiseS x f Fa) :=
  PS.imp (ps_raise hc tk (pmk_x T gs hr hg hm ha hdb hs hpl)) fun D σ H h => tS_bnd (P := Rep (rc X)) h fun G1 env1 f1 d v H1 e r q => fun dx hd => by
    have al : Alo G1 H1 (upd G1 dx (.xd [(f, v)])) (upd H1 dx (.xd [(f, v)])) := .new e.sub hd
    exact q (.ref C) (some dx) σ _ _ f1 (al.stp f1) (e.alo al) (.refl σ) ⟨C, dx, v, hm, rfl, rfl, upd_same, r.mono al.sub⟩
end
end DL

namespace DL
open PySem PySem.Spec PyProof.Rows L2
variable [LT]

/-! ### an exception that is held -/
theorem xo_ok {P : Program} {w : World} {H : Hp} {h : Heap} {a : Addr} {cls : Value} {d : Option Addr} {oe : Obj} {vs : Array Value} (e : h.get? a = some oe) (z : Zc cls d oe) (f : oe.data = .fields vs) : ObjOk P w H h a (xo a cls d) :=
  ⟨⟨oe, vs, e, z, f⟩, ⟨oe, e⟩, fun h1 h2 ⟨o, v, q, r⟩ k => ⟨o, v, k o q, r⟩⟩
theorem xo_at {P : Program} {w : World} {H : Hp} {h : Heap} {a : Addr} {cls : Value} {d : Option Addr} (ok : HOk P w H h) (e : H a = some (xo a cls d)) : ∃ oe vs, h.get? a = some oe ∧ Zc cls d oe ∧ oe.data = .fields vs := by
  have z : ObjOk P w H h a (.ext fun h => ∃ oe vs, h.get? a = some oe ∧ Zc cls d oe ∧ oe.data = .fields vs) := ok a _ e
  exact z.1
section
variable {X : Cx} {pins : List (Addr × Obj)} {σ : L2.St} {H : Hp} {sI s' : Shared} {B : Heap}
/-- on the ground, the exception tracked -/
theorem landT {a : Addr} {o : HO} (I : Inv X pins σ H sI) (nb : ∀ b u, sI.heap.get? b = some u → b ∉ frs X.stack → B.get? b = some u) (st : B.StaysIn s'.heap) (up : sI.heap.UpToSlots s'.heap) (os : s'.os = sI.os) (ag : AllBare s'.gens) (nI : sI.heap.get? a = none) (nH : H a = none)
    (new : ObjOk X.prog X.w (upd H a o) s'.heap a o) : Inv X pins σ (upd H a o) s' := by
  have slots : ∀ b ∈ frs X.stack, ∀ u, sI.heap.get? b = some u → ∃ sl, s'.heap.get? b = some { u with slots := sl } := fun b hb u e => by
    obtain ⟨_, u2, e2, nf⟩ := I.stack.mem hb
    rw [e] at e2
    cases e2
    exact up b u e nf
  have old : ∀ {b : Addr} {u : Obj}, sI.heap.get? b = some u → b ≠ a := fun {b u} e z => by
    rw [z, nI] at e
    cases e
  have J := I.call (ch := []) (h' := s'.heap) (g' := s'.gens) (t' := s'.toks) (d' := s'.drawn) (H' := upd H a o) {
      keep := fun b u e _ hb _ => st b u (nb b u e hb)
      slot := fun b u e _ hb _ => slots b hb u e
      free := fun b u e n _ => by
        rw [upd_ne (old e)]
        exact n
      there := fun b u e _ => by
        by_cases hb : b ∈ frs X.stack
        · obtain ⟨sl, q⟩ := slots b hb u e
          exact ⟨_, q⟩
        · exact ⟨u, st b u (nb b u e hb)⟩
      tups := fun b xs e => by
        rw [upd_ne (ne_of_none e nH)]
        exact e
      frzs := fun b u x e => by
        rw [upd_ne (ne_of_none e nH)]
        exact e
      tbls := fun b ps e => ⟨#[], by rw [upd_ne (ne_of_none e nH), e]; simp⟩ }
    (((I.inGround nb).kept st).laidN (fun _ _ e => e) nH new) ag (fun _ z => nomatch z)
  obtain ⟨a1, a2, a3, a4, a5⟩ := s'
  have e5 : a5 = sI.os := os
  subst e5
  exact J
theorem Inv.suite0 (I : Inv X pins σ H sI) (a : Addr) : Inv (X.suite a (X.pn ++ pins)) [] σ H sI := by
  refine ⟨I.ok.suite _ _, I.os, I.bare, I.base, I.loc, I.cell, I.free, I.freeC, fun p hp => ?_, I.hok, I.len⟩
  rw [List.append_nil] at hp
  exact I.pin p hp
theorem Inv.unsuite0 {a : Addr} {pn' : List (Addr × Obj)} (I : Inv (X.suite a (X.pn ++ pins)) pn' σ H sI) (ok : X.Ok) : Inv X pins σ H sI :=
  ⟨ok, I.os, I.bare, I.base, I.loc, I.cell, I.free, I.freeC, fun p hp => I.pin p (List.mem_append_left _ hp), I.hok, I.len⟩
end
/-! ### e.f, isinstance(e, C) -/
section
variable {X : Cx} {e : Expr} {te : TE} {pos : Pos} {n : Str}
/-- e.f -/
def tXo (K : PySem.W.Frag) (f : Str) (te : TE) : TE := fun σ H Q => te σ H fun x H1 => ∃ (a C dd : Addr) (fs : List (Str × V)) (v : V), x = .ref a ∧ H1 a = some (xo a (.ref C) (some dd)) ∧ XfC K C ∧ PySem.W.findIn K (.ref C) f = some none ∧ H1 dd = some (.xd fs) ∧ fs.lookup f = some v ∧ Q v H1
theorem pe_xo (he : PE X e te) (hb : attributeBase e n X.env (eval e X.env) = eval e X.env := by rfl) : PE X (.Attribute e n pos) (tXo X.K n te) := by
  refine ⟨fun pins s σ H Q I h => ?_⟩
  refine attr_of hb (thn (he.run pins s σ H _ I h) fun u s1 hh => ?_)
  obtain ⟨x, H1, I1, rx, a, C, dd, fs, v, ex, ea, T, no, ed, l, q⟩ := hh
  subst ex
  obtain rfl : u = Value.ref a := rx
  obtain ⟨oe, vs, ho, hz, hd⟩ := xo_at I1.hok ea
  have hx : ObjOk X.prog X.w H1 s1.heap dd (.xd fs) := I1.hok dd _ ed
  obtain ⟨mA, hns, hr⟩ := hx
  obtain ⟨od, hod, hl⟩ := lookIn_ns hns
  obtain ⟨u, hu, ru⟩ := RelO.some_of (v := v) (o := mA n) (by rw [← l]; exact hr n)
  have nc : PySem.W.notCls oe = true := by
    unfold PySem.W.notCls
    rw [hd] <;> rfl
  have J : PySem.W.InstAt s1.heap a oe C (some od) := ⟨ho, hz.1, nc, by rw [hz.2]; exact hod⟩
  refine PySem.HandSPX.exc_get I1.kIn J T.ga T.gg T.exC (PySem.W.findObj_own T.hdC no rfl ?_) (handed_of ru) ⟨v, H1, I1.tok _, ru, q⟩
  rw [hl, hu]
/-- isinstance(e, c), e an exception that is held -/
def rIsX (K : PySem.W.Frag) : List V → Hp → VK → Prop := fun xs H Q => ∃ (a C dd : Addr) (c : V) (cv : Value) (b : Bool), xs = [.ref a, c] ∧ H a = some (xo a (.ref C) (some dd)) ∧ (∃ fs, H dd = some (.xd fs)) ∧ ExcC K C ∧ (∀ u, RelV c u → u = cv) ∧ PySem.W.kitOne K (.ref C) cv = some b ∧ Q (.bl b) H
end
end DL
namespace DL
open PySem PySem.Spec PySem.W PySem.Calls PyProof.Rows
section
variable {prog : Program} {w : World} {A : Around} {E : Value → Shared → Prop} {s : Shared} {K : Frag} {x C : Addr} {ox : Obj} {od : Option Obj}
theorem find_data {name : Str} {a g : Value} (hc : (clsIn K C).isSome = true) (ha : findIn K (.ref C) name = some (some a)) (hg : specialIn K a "__get__" = some (some g)) (ht : takesIn K a = some true) : findObj K C od name = some (.bind g a) := by
  obtain ⟨cd, e⟩ := Option.isSome_iff_exists.mp hc
  unfold findObj
  rw [e, Option.bind_some, ha, Option.bind_some]
  simp [hg, ht]
theorem held_class {Q : Option Value → Shared → Prop} (T : L2.ExcC K C) (X : K.In s.heap) (I : InstAt s.heap x ox C od) (h : Q (some (.ref C)) { s with toks := s.toks + 1 }) : wpAny (model prog w) A (getAttr? (.ref x) "__class__") Q E s := by
  have hf : findObj K C od "__class__" = some (.bind (.builtin "getset_descriptor.__get__") (.builtin "object.__class__")) := find_data (by
    obtain ⟨cd, hc, _⟩ := any_some T.hd
    rw [hc]
    rfl) T.ha T.hn T.ht
  obtain ⟨hp, g, d, t, os⟩ := s
  have l0 := I.type (M := model prog w)
  have l1 := looks_findIn (M := model prog w) X T.hg
  have l2 := looks_findIn (M := model prog w) X T.hk
  have l3 := looks_find (M := model prog w) X I hf
  have isX : Looks (model prog w) hp (isInstance (.ref x) (.type "BaseException")) true := l0.andThen (looks_subIn X T.hs)
  have n0 : (false && onTheHeap (Value.builtin "BaseException.__getattribute__")) = false := rfl
  have n2 : (Value.builtin "BaseException.__getattribute__" == Value.builtin "object.__getattribute__") = false := by decide +kernel
  have n1 : (onTheHeap (Value.ref C) && Value.builtin "BaseException.__getattribute__" == Value.builtin "object.__getattribute__") = false := by
    rw [n2]
    rfl
  unfold getAttr? getAttrBy? getAttrBy
  refine wpAny_bind (wpAny_mkText (wpAny_bind (wpAny_attempt (wpAny_holding (wpAny_bind (l0.at (wpAny_bind (l1.at ?_))))))))
  show wpAny _ _ (if (onTheHeap (Value.ref C) && Value.builtin "BaseException.__getattribute__" == Value.builtin "object.__getattribute__") = true then _ else _) _ _ _
  rw [n1, if_neg Bool.false_ne_true]
  unfold getAttrByItsOwn hookBefore
  refine wpAny_bind ?_
  rw [if_pos (show onTheHeap (Value.ref C) = true from rfl)]
  refine l2.at (wpAny_bind (wpAny_attempt (wpAny_holding ?_)))
  unfold callGetattribute
  rw [n0, if_neg Bool.false_ne_true]
  unfold boundAndCalled
  rw [PySem.F.excAttr_ValueError.ga.bind (.ref x)]
  refine wpAny_bind (wpAny_pure ?_)
  show wpAny _ _ (call (.builtin "BaseException.__getattribute__") [.ref x, .str "__class__" t]) _ _ _
  refine wpAny_call (codeAny_call_builtin PySem.F.excAttr_ValueError.ga.plain PySem.F.entry_bexc_ga ?_)
  refine @check_slot (model prog w) _ _ ⟨hp, g, d, t + 1, os⟩ "BaseException.__getattribute__" "BaseException" "__getattribute__" (.ref x) [.str "__class__" t] [] _ (by decide +kernel) (by decide +kernel) isX (PySem.F.args_bexc_ga (.ref x) (.str "__class__" t)) ?_
  unfold Builtin.«object.__getattribute__»
  refine wpAny_bind (wpAny_of_eq (a := ((Value.ref x : Value), [Value.str "__class__" t])) (by
    first
      | rfl
      | (simp only [slotArgs]
         rfl)) ?_)
  refine wpAny_bind (wpAny_pure (wpAny_bind (l0.at (wpAny_bind (l3.at ?_)))))
  show wpAny _ _ (holding [Value.builtin "object.__class__"] (call (.builtin "getset_descriptor.__get__") [.builtin "object.__class__", .ref x, .ref C]) >>= ret) _ _ _
  refine wpAny_bind (wpAny_holding (wpAny_call (class_get (s := ⟨hp, g, d, t + 1, os⟩) X I T.hm (wpAny_pure ?_))))
  show wpAny _ _ (handedOut (.ref C)) _ _ _
  rw [handedOut_of (v := .ref C) rfl]
  first
    | exact wpAny_pure (wpAny_pure h)
    | exact wpAny_pure h
    | exact wpAny_pure (wpAny_bind (wpAny_pure (wpAny_pure h)))
theorem held_kit (T : L2.ExcC K C) : KitX K (.ref x) (.ref C) (fun h => InstAt h x ox C od) where
  ty := fun _ _ _ I => I.type
  it := fun _ _ X _ => by
    obtain ⟨cd, hc, _⟩ := any_some T.hd
    unfold clsIn at hc
    split at hc
    · rename_i c' d' cd' sl' ho
      intro A' Q' E' s' k q
      unfold isType loadHead
      exact wpAny_bind (wpAny_loadPart (k _ _ (X _ _ ho)) (wpAny_pure q))
    · cases hc
  ne := fun h tp dd its n sl X e => by
    obtain ⟨cd, hc, _⟩ := any_some T.hd
    refine Bool.eq_false_iff.mpr fun q => ?_
    have e2 : C = tp := Value.ref.inj (beq_iff_eq.mp q)
    subst e2
    unfold clsIn at hc
    split at hc
    · rename_i c' d' cd' sl' ho
      have z := (X _ _ ho).symm.trans e
      cases z
    · cases hc
  ca := fun X I k => held_class T X I k
end
end DL
namespace DL
open PySem PySem.Spec PyProof.Rows L2
variable [LT]
theorem call_isX {X : Cx} : CallR X (.builtin "isinstance") (rIsX X.K) := by
  intro pins s σ H xs us Q I r h
  obtain ⟨a, C, dd, c, cv, b, rfl, ea, ⟨fs, ed⟩, T, hcv, e, q⟩ := h
  cases r with
  | cons rx rr =>
    cases rr with
    | cons rt rr =>
      cases rr
      cases rx
      have ec := hcv _ rt
      subst ec
      obtain ⟨oe, vs, ho, hz, hd⟩ := xo_at I.hok ea
      have hx : ObjOk X.prog X.w H s.heap dd (.xd fs) := I.hok dd _ ed
      obtain ⟨mA, hns, _⟩ := hx
      obtain ⟨od, hod, _⟩ := lookIn_ns hns
      have nc : PySem.W.notCls oe = true := by
        unfold PySem.W.notCls
        rw [hd] <;> rfl
      have J : PySem.W.InstAt s.heap a oe C (some od) := ⟨ho, hz.1, nc, by rw [hz.2]; exact hod⟩
      exact PySem.W.kia_one (held_kit T) I.kIn J e (fun z => nomatch z) fun tk => ⟨.bl b, H, I.kept (t' := tk) fun _ _ z => z, rfl, q⟩
end DL

namespace DL
open PySem PySem.Spec PyProof.Rows L2
variable [LT]

/-! ### try: several clauses, with names or without -/
theorem flying_keeps {base h h' : Heap} {l : List Env} {e : Addr} {Z : Obj → Prop} (x : PySem.HandSPX.FlyingZ base l e Z h) (k : ∀ b o, h.get? b = some o → h'.get? b = some o) : PySem.HandSPX.FlyingZ base l e Z h' := by
  obtain ⟨k1, k2, k3, oe, vs, T, oT, ts, q1, q2, q3, q4, q5, q6, q7, q8⟩ := x
  exact ⟨fun b o z => k b o (k1 b o z), k2, k3.of_keeps fun b o z _ => ⟨o, k b o z, rfl⟩, oe, vs, T, oT, ts, k _ _ q1, q2, q3, q4, q5, q6, k _ _ q7, q8⟩
/-- what a clause asks of the exception's class -/
def TestX (X : Cx) (e : Expr) (c : Value → Option Bool) : Prop := ∀ (pn : List (Addr × Obj)) (a : Addr) (σ : L2.St) (H : Hp) (s : Shared) (cls : Value) (b : Bool) (Q : Bool → Shared → Prop) (E : Value → Shared → Prop), Inv (X.suite a pn) [] σ H s →
  PySem.W.Looks (model X.prog X.w) s.heap (typeOf (.ref a)) cls → c cls = some b → (∀ h' tk, (∀ x o, s.heap.get? x = some o → h'.get? x = some o) → Q b { s with heap := h', toks := tk }) →
  wpAny (model X.prog X.w) (X.A.mark (some (.ref a))) (eval e X.env) (fun v s1 => wpAny (model X.prog X.w) (X.A.mark (some (.ref a))) (excMatches (.ref a) v) Q E s1) E s
theorem test_name {X : Cx} {x : Str} {c : Value} {np : Pos} (hc : Names X x c) : TestX X (.Name x np) (fun cls => PySem.W.exmOne X.K cls c) := by
  intro pn a σ H s cls b Q E I LT e q
  have LM := PySem.W.exm_one (M := model X.prog X.w) I.kIn LT e
  have fin : wpAny (model X.prog X.w) (X.A.mark (some (.ref a))) (excMatches (.ref a) c) Q E s := LM.here (q s.heap s.toks fun _ _ z => z)
  obtain ⟨hg, hdb, hm | ⟨hm, hv, hn⟩⟩ := hc
  · exact ld_glob (X := X.suite a pn) I hg hm fin hdb
  · exact ld_blt (X := X.suite a pn) I hg hm hv fin hn hdb
structure Clz where
  c : Value → Option Bool
  i : Option Nat
  ts : Addr → Value → Option Addr → TS
def endsX (oi : Option Nat) (D : Ends) : Ends := match oi with
  | none => D
  | some i => { nx := fun σ H => D.nx (σ.set i none) H, rt := D.rt, bk := fun σ H => D.bk (σ.set i none) H, ct := fun σ H => D.ct (σ.set i none) H }
def putX (oi : Option Nat) (σ : L2.St) (a : Addr) : L2.St := match oi with
  | none => σ
  | some i => σ.set i (some (.ref a))
def wMx (Wout : WX) (D : Ends) : List Clz → WX
  | [] => Wout
  | z :: r => fun cls d σ H => ∃ b, z.c cls = some b ∧ (b = true → ∀ a, H a = none → z.ts a cls d (endsX z.i D) (putX z.i σ a) (upd H a (xo a cls d))) ∧ (b = false → wMx Wout D r cls d σ H)
inductive HdsX (X : Cx) : List ExceptHandler → List Clz → Prop
  | nil : HdsX X [] []
  | bare {e : Expr} {c : Value → Option Bool} {ts : Addr → Value → Option Addr → TS} {b₀ : Stmt} {suite : List Stmt} {pos' : Pos} {hds : List ExceptHandler} {l : List Clz} (ht : TestX X e c)
      (hsu : ∀ (a : Addr) (cls : Value) (d : Option Addr) (pn : List (Addr × Obj)), PSs (X.suite a pn) (b₀ :: suite) (ts a cls d)) (r : HdsX X hds l) :
      HdsX X (.ExceptHandler (some e) none (b₀ :: suite) pos' :: hds) (⟨c, none, ts⟩ :: l)
  | as {e : Expr} {c : Value → Option Bool} {i : Nat} {n : Str} {ts : Addr → Value → Option Addr → TS} {b₀ : Stmt} {suite : List Stmt} {pos' : Pos} {hds : List ExceptHandler} {l : List Clz} (ht : TestX X e c) (hi : X.N[i]? = some n) (hln : X.env.kindOf n = some .local)
      (hsu : ∀ (a : Addr) (cls : Value) (d : Option Addr) (pn : List (Addr × Obj)), PSs (X.suite a pn) (b₀ :: suite) (ts a cls d)) (r : HdsX X hds l) :
      HdsX X (.ExceptHandler (some e) (some n) (b₀ :: suite) pos' :: hds) (⟨c, some i, ts⟩ :: l)
section
variable {X : Cx} {body : List Stmt} {h₀ : ExceptHandler} {hds : List ExceptHandler} {l : List Clz} {pos : Pos} {tb : WX → TS} {Wout : WX}
theorem ps_try_x (hs : X.stack = X.env :: X.outer) (hf : X.env.frame = some X.env.locals) (hN : X.N.Nodup) (tk : Takes X Wout)
    (hb : ∀ (W : WX) (pn : List (Addr × Obj)) (xe : Value → Shared → Prop), Takes (X.tr pn xe) W → PassesOwn (model X.prog X.w) X.A X.env xe → PSs (X.tr pn xe) body (tb W))
    (hh : HdsX X (h₀ :: hds) l) : PS X (.Try body (h₀ :: hds) [] [] pos) (fun D σ H => tb (wMx Wout D l) D σ H) := by
  refine ⟨fun pins s σ H D I h => ?_⟩
  have ok := I.ok
  have fr : X.A.frames = some (X.env :: X.outer) := by
    rw [ok.frames, hs]
  refine wpAny_Try_except ?_
  refine wpAny_mono ((hb (wMx Wout D l) (X.pn ++ pins) (fun e s₁ => wpAny (model X.prog X.w) X.A (noteFrame e X.env) (fun _ s₂ => wpAny (model X.prog X.w) X.A (setFlight e none) (fun _ s₃ =>
    wpAny (model X.prog X.w) X.A (handleBy e X.env (h₀ :: hds)) (SP X pins D) X.xe s₃) X.xe s₂) X.xe s₁) (fun u s' xx => ?_) PassesOwn.looking).run [] s σ H D (I.toTry _) h) (fun fl s1 hsp => ?_) (fun e s1 he => he)
  · obtain ⟨a, B, sI, pins', σ', H', cls, d, rfl, J', nb, up, sky, na, os, ag, w⟩ := xx
    have J : Inv X pins σ' H' sI := J'.ofTry ok
    have sky2 : Sky B (X.env :: X.outer) a (Zc cls d) X.env.locals s'.heap := by
      rw [← hs]
      exact sky
    show wpAny (model X.prog X.w) X.A (noteFrame (.ref a) X.env) _ _ _
    refine Sky.land Zc.steady fr hf sky2 fun h3 fl3 up3 => ?_
    obtain ⟨oe3, vs3, he3, hz3, hd3⟩ := fl3.there
    have nfr : a ∉ frs (X.env :: X.outer) := fun hm => by
      obtain ⟨_, o', e', hnf⟩ := fl3.2.2.1.mem hm
      rw [he3] at e'
      cases e'
      exact hnf _ hd3
    have nI : sI.heap.get? a = none := by
      cases q : sI.heap.get? a with
      | none => rfl
      | some o =>
        have z := nb a o q (by rw [hs]; exact nfr)
        rw [fl3.2.1] at z
        cases z
    have go : ∀ {hds' : List ExceptHandler} {l' : List Clz}, HdsX X hds' l' → ∀ (h3 : Heap) (tk3 : Nat), PySem.HandSPX.FlyingZ B (X.env :: X.outer) a (Zc cls d) h3 → s'.heap.UpToSlots h3 → wMx Wout D l' cls d σ' H' →
        wpAny (model X.prog X.w) X.A (handleBy (.ref a) X.env hds') (SP X pins D) X.xe { s' with heap := h3, toks := tk3 } := by
      intro hds' l' hk
      induction hk with
      | nil =>
        intro h3 tk3 fl3 up3 w
        refine wpAny_handleBy_nil ?_
        obtain ⟨k1, k2, k3, oe, vs, T, oT, ts', he, hz, hd, h1, hr⟩ := id fl3
        unfold PySem.passOn
        refine wpAny_bind (wpAny_field he hd h1 ?_)
        rw [if_neg (show ¬ ((Value.ref T == Value.none) = true) from by simp)]
        have fin : wpAny (model X.prog X.w) X.A (setFlight (.ref a) X.env.frame) (fun _ s4 => wpAny (model X.prog X.w) X.A (throw (.ref a) : Sem Flow) (SP X pins D) X.xe s4) X.xe { s' with heap := h3, toks := tk3 } := by
          rw [hf]
          refine PySem.HandSPX.setFlight_upZ fl3 fun h4 hh4 up4 => wpAny_throw (tk _ _ ?_)
          exact ⟨a, B, sI, pins, σ', H', cls, d, rfl, J, nb, (up.trans up3).trans up4, .inr (.inr (by rw [hs]; exact hh4)), na, os, ag, w⟩
        first
          | exact wpAny_bind (wpAny_pure (wpAny_bind fin))
          | exact wpAny_bind fin
      | @bare e c ts b₀ suite pos' hds2 l2 ht hsu r ih =>
        intro h3 tk3 fl3 up3 w
        obtain ⟨b, hb1, hyes, hno⟩ := w
        obtain ⟨oe3, vs3, he3, hz3, hd3⟩ := fl3.there
        have J3 : Inv X pins σ' H' { s' with heap := h3, toks := tk3 } := J.landed nb fl3.1 (up.trans up3) os ag
        have LT : PySem.W.Looks (model X.prog X.w) h3 (typeOf (.ref a)) cls := fun A Q E s k q => wpAny_typeOf_ref (k _ _ he3) (by rw [hz3.1]; exact q)
        refine wpAny_handleBy_cons (codeAny_handlers_test ?_) (by intro q; cases q)
        refine ht (X.pn ++ pins) a σ' H' _ cls b _ _ (Inv.suite0 J3 a) LT hb1 fun h4 tk4 k4 => ?_
        have fl4 := flying_keeps fl3 k4
        have up4 : s'.heap.UpToSlots h4 := up3.trans (Heap.UpToSlots.of_keeps k4)
        cases b with
        | true =>
          refine codeAny_handlers_suite ?_
          refine PySem.HandSPX.lands_againZ fl4 fun h5 fl5 up5 => ?_
          obtain ⟨oe5, vs5, he5, hz5, hd5⟩ := fl5.there
          have J5 : Inv X pins σ' (upd H' a (xo a cls d)) { s' with heap := h5, toks := tk4 } := landT J nb fl5.1 ((up.trans up4).trans up5) os ag nI na (xo_ok he5 hz5 hd5)
          refine wpAny_mono ((hsu a cls d (X.pn ++ pins)).run [] _ _ _ _ (Inv.suite0 J5 a) (hyes rfl a na)) (fun f s6 hsp => ?_) (fun _ _ z => False.elim z)
          cases f with
          | next =>
            obtain ⟨σ6, H6, S6, q6⟩ := hsp
            exact ⟨_, _, Inv.unsuite0 S6 ok, q6⟩
          | brk =>
            obtain ⟨σ6, H6, S6, q6⟩ := hsp
            exact ⟨_, _, Inv.unsuite0 S6 ok, q6⟩
          | cont =>
            obtain ⟨σ6, H6, S6, q6⟩ := hsp
            exact ⟨_, _, Inv.unsuite0 S6 ok, q6⟩
          | ret u =>
            obtain ⟨v6, σ6, H6, S6, r6, q6⟩ := hsp
            exact ⟨_, _, _, Inv.unsuite0 S6 ok, r6, q6⟩
        | false =>
          show wpAny _ X.A (handleBy (.ref a) X.env hds2) _ _ _
          exact ih h4 tk4 fl4 up4 (hno rfl)
      | @as e c i n ts b₀ suite pos' hds2 l2 ht hi hln hsu r ih =>
        intro h3 tk3 fl3 up3 w
        obtain ⟨b, hb1, hyes, hno⟩ := w
        obtain ⟨oe3, vs3, he3, hz3, hd3⟩ := fl3.there
        have J3 : Inv X pins σ' H' { s' with heap := h3, toks := tk3 } := J.landed nb fl3.1 (up.trans up3) os ag
        have LT : PySem.W.Looks (model X.prog X.w) h3 (typeOf (.ref a)) cls := fun A Q E s k q => wpAny_typeOf_ref (k _ _ he3) (by rw [hz3.1]; exact q)
        refine wpAny_handleBy_cons (codeAny_handlers_test ?_) (by intro q; cases q)
        refine ht (X.pn ++ pins) a σ' H' _ cls b _ _ (Inv.suite0 J3 a) LT hb1 fun h4 tk4 k4 => ?_
        have fl4 := flying_keeps fl3 k4
        have up4 : s'.heap.UpToSlots h4 := up3.trans (Heap.UpToSlots.of_keeps k4)
        cases b with
        | true =>
          refine codeAny_handlers_suite_as ?_
          refine PySem.HandSPX.lands_againZ fl4 fun h5 fl5 up5 => ?_
          obtain ⟨oe5, vs5, he5, hz5, hd5⟩ := fl5.there
          have J5 : Inv X pins σ' (upd H' a (xo a cls d)) { s' with heap := h5, toks := tk4 } := landT J nb fl5.1 ((up.trans up4).trans up5) os ag nI na (xo_ok he5 hz5 hd5)
          refine store_ok (X := X.suite a (X.pn ++ pins)) (v := .ref a) (Inv.suite0 J5 a) hN hi (.inl hln) rfl (fun s5 S5 => ?_) (.inr hln)
          refine wpAny_mono ((hsu a cls d (X.pn ++ pins)).run [] s5 _ _ _ S5 (hyes rfl a na)) (fun f s6 hsp => ?_) (fun _ _ z => False.elim z)
          have goes : ∀ {σ6 : L2.St} {H6 : Hp} {Q : Shared → Prop}, Inv (X.suite a (X.pn ++ pins)) [] σ6 H6 s6 → (∀ s7, Inv X pins (σ6.set i none) H6 s7 → Q s7) →
              wpAny (model X.prog X.w) X.A (do bindName X.env n .none; unbindBehindTheSuite X.env n pos') (fun _ s7 => Q s7) X.xe s6 := fun {σ6 H6 Q} S6 hq => gone_ok (Inv.unsuite0 S6 ok) hN hi hln hq
          cases f with
          | next =>
            obtain ⟨σ6, H6, S6, q6⟩ := hsp
            exact goes S6 fun s7 J7 => ⟨_, _, J7, q6⟩
          | brk =>
            obtain ⟨σ6, H6, S6, q6⟩ := hsp
            exact goes S6 fun s7 J7 => ⟨_, _, J7, q6⟩
          | cont =>
            obtain ⟨σ6, H6, S6, q6⟩ := hsp
            exact goes S6 fun s7 J7 => ⟨_, _, J7, q6⟩
          | ret u =>
            obtain ⟨v6, σ6, H6, S6, r6, q6⟩ := hsp
            exact goes S6 fun s7 J7 => ⟨_, _, _, J7, r6, q6⟩
        | false =>
          show wpAny _ X.A (handleBy (.ref a) X.env hds2) _ _ _
          exact ih h4 tk4 fl4 up4 (hno rfl)
    exact go hh h3 s'.toks fl3 up3 w
  · cases fl with
    | next =>
      obtain ⟨σ', H', J', q⟩ := hsp
      exact wpAny_execs_nil ⟨σ', H', J'.ofTry ok, q⟩
    | brk =>
      obtain ⟨σ', H', J', q⟩ := hsp
      exact ⟨σ', H', J'.ofTry ok, q⟩
    | cont =>
      obtain ⟨σ', H', J', q⟩ := hsp
      exact ⟨σ', H', J'.ofTry ok, q⟩
    | ret u =>
      obtain ⟨v, σ', H', J', r, q⟩ := hsp
      exact ⟨v, σ', H', J'.ofTry ok, r, q⟩
end
end DL

namespace DL
open PySem PySem.Spec PyProof.Rows L2
variable [LT]

/-! ### try .. except, the functions -/
structure Hd where
  m : Str → Option Bool
  i : Option Nat
  S : MS
def enterX (i : Option Nat) (x : XV) (e : List EV) : Option (List EV) := match i with
  | none => some e
  | some i => put i (.exc x.cls x.fld x.val) e
def leaveX (i : Option Nat) (m : SO) : SO := match i with
  | none => m
  | some i => match m with
    | .nx e => .nx (e.set i .un)
    | .bk e => .bk (e.set i .un)
    | .ct e => .ct (e.set i .un)
    | .rt r e => .rt r e
    | .ex _ _ => .no
    | .no => .no
def tryH (x : XV) (e : List EV) : List Hd → SO
  | [] => .ex x e
  | h :: r => match h.m x.cls with
    | some true => (match enterX h.i x e with
      | some e1 => leaveX h.i (h.S e1)
      | none => .no)
    | some false => tryH x e r
    | none => .no
def tryS (B : MS) (hs : List Hd) : MS := fun e => match B e with
  | .ex x e1 => tryH x e1 hs
  | m => m
/-- the clauses' readings -/
def clz (X : Cx) (Pr : Nat → Bool) (c : Value → Option Bool) (h : Hd) : Clz := ⟨c, h.i, fun _ _ _ => tS (rc X) Wno Pr h.S⟩
inductive HdsD (X : Cx) (Pr : Nat → Bool) : List ExceptHandler → List Clz → List Hd → Prop
  | nil : HdsD X Pr [] [] []
  | bare {e : Expr} {c : Value → Option Bool} {m : Str → Option Bool} {S : MS} {b₀ : Stmt} {suite : List Stmt} {pos' : Pos} {hds : List ExceptHandler} {l : List Clz} {hs : List Hd} (ht : TestX X e c) (hm : ∀ x b, m x = some b → ∀ C, X.mg x = some (.ref C) → c (.ref C) = some b)
      (hsu : ∀ (a : Addr) (pn : List (Addr × Obj)), DSs (X.suite a pn) Wno Pr (b₀ :: suite) S) (r : HdsD X Pr hds l hs) : HdsD X Pr (.ExceptHandler (some e) none (b₀ :: suite) pos' :: hds) (clz X Pr c ⟨m, none, S⟩ :: l) (⟨m, none, S⟩ :: hs)
  | as {e : Expr} {c : Value → Option Bool} {m : Str → Option Bool} {i : Nat} {n : Str} {S : MS} {b₀ : Stmt} {suite : List Stmt} {pos' : Pos} {hds : List ExceptHandler} {l : List Clz} {hs : List Hd} (ht : TestX X e c) (hm : ∀ x b, m x = some b → ∀ C, X.mg x = some (.ref C) → c (.ref C) = some b)
      (hi : X.N[i]? = some n) (hln : X.env.kindOf n = some .local) (hp : Pr i = false)
      (hsu : ∀ (a : Addr) (pn : List (Addr × Obj)), DSs (X.suite a pn) Wno Pr (b₀ :: suite) S) (r : HdsD X Pr hds l hs) : HdsD X Pr (.ExceptHandler (some e) (some n) (b₀ :: suite) pos' :: hds) (clz X Pr c ⟨m, some i, S⟩ :: l) (⟨m, some i, S⟩ :: hs)
theorem HdsD.hdsX {X : Cx} {Pr : Nat → Bool} {hds : List ExceptHandler} {l : List Clz} {hs : List Hd} (h : HdsD X Pr hds l hs) : HdsX X hds l := by
  induction h with
  | nil => exact .nil
  | bare ht hm hsu r ih => exact .bare ht (fun a cls d pn => hsu a pn) ih
  | as ht hm hi hln hp hsu r ih => exact .as ht hi hln (fun a cls d pn => hsu a pn) ih
theorem atS_leave {R : RC} {W W' : WX} {Pr : Nat → Bool} {i : Option Nat} {m : SO} {G H : Hp} {f : List Addr} {σ : L2.St} {D : Ends} (hp : ∀ j, i = some j → Pr j = false) (hx : i = none → ∀ x e, m ≠ .ex x e) (q : AtS R W Pr (leaveX i m) G H f σ D) : AtS R W' Pr m G H f σ (endsX i D) := by
  cases i with
  | none =>
    cases m with
    | ex x e => exact absurd rfl (hx rfl x e)
    | nx e => exact q
    | bk e => exact q
    | ct e => exact q
    | rt r e => exact q
    | no => exact q
  | some i =>
    have kp : ∀ {σ' : L2.St}, Kp Pr σ σ' → Kp Pr σ (σ'.set i none) := fun k => k.trans (Kp.set (hp i rfl))
    cases m with
    | ex x e => exact q.elim
    | nx e =>
      intro σ' G' H' f' s' e' k'
      obtain ⟨f2, e2, s2⟩ := e'.wipe1 i
      exact q (σ'.set i none) G' H' f2 (s'.trans s2) e2 (kp k')
    | bk e =>
      intro σ' G' H' f' s' e' k'
      obtain ⟨f2, e2, s2⟩ := e'.wipe1 i
      exact q (σ'.set i none) G' H' f2 (s'.trans s2) e2 (kp k')
    | ct e =>
      intro σ' G' H' f' s' e' k'
      obtain ⟨f2, e2, s2⟩ := e'.wipe1 i
      exact q (σ'.set i none) G' H' f2 (s'.trans s2) e2 (kp k')
    | rt r e => exact q
    | no => exact q.elim
/-- no exception leaves a suite: a bare one's outcome -/
def noEx (m : SO) : SO := match m with
  | .ex _ _ => .no
  | m => m
section
variable {X : Cx} {W : WX} {Pr : Nat → Bool} {body : List Stmt} {h₀ : ExceptHandler} {hds : List ExceptHandler} {l : List Clz} {hs : List Hd} {pos : Pos} {B : MS}
theorem tryH_read {x : XV} {e1 : List EV} {hds : List ExceptHandler} {l : List Clz} {hs : List Hd} (hd : HdsD X Pr hds l hs) (hx : ∀ h ∈ hs, h.i = none → ∀ e y e', h.S e ≠ .ex y e') : ∀ {G H : Hp} {f : List Addr} {σ σ' : L2.St} {D : Ends} {G' H' : Hp} {f' : List Addr} {c : Value} {d : Option Addr},
    AtS (rc X) W Pr (tryH x e1 hs) G H f σ D → Stp G H f G' H' f' → EnvOk (rc X) G' H' e1 σ' f' → Kp Pr σ σ' → ExR (rc X) G' x c d → wMx W D l c d σ' H' := by
  induction hd with
  | nil =>
    intro G H f σ σ' D G' H' f' c d q s e k xr
    exact q c d σ' G' H' f' s e k xr
  | @bare e c m S b₀ suite pos' hds l hs ht hm hsu r ih =>
    intro G H f σ σ' D G' H' f' cv d q s ev k xr
    obtain ⟨C, dd, v, h1, h2, h3, h4, h5⟩ := xr
    subst h2 h3
    simp only [tryH] at q
    cases z : m x.cls with
    | none => rw [z] at q; exact q.elim
    | some b =>
      rw [z] at q
      refine ⟨b, hm _ _ z _ h1, fun hb a na => ?_, fun hb => ?_⟩
      · subst hb
        have al : Alo G' H' (upd G' a (xo a (.ref C) (some dd))) (upd H' a (xo a (.ref C) (some dd))) := .new ev.sub na (fun ps z => by cases z)
        exact ⟨_, e1, f', ev.alo al, atS_leave (fun j z => by cases z) (fun _ => hx _ (List.mem_cons_self ..) rfl _) (AtS.step q (s.trans (al.stp f')) k)⟩
      · subst hb
        exact ih (fun h hh => hx h (List.mem_cons_of_mem _ hh)) q s ev k ⟨C, dd, v, h1, rfl, rfl, h4, h5⟩
  | @as e c m i n S b₀ suite pos' hds l hs ht hm hi hln hp hsu r ih =>
    intro G H f σ σ' D G' H' f' cv d q s ev k xr
    obtain ⟨C, dd, v, h1, h2, h3, h4, h5⟩ := xr
    subst h2 h3
    simp only [tryH] at q
    cases z : m x.cls with
    | none => rw [z] at q; exact q.elim
    | some b =>
      rw [z] at q
      refine ⟨b, hm _ _ z _ h1, fun hb a na => ?_, fun hb => ?_⟩
      · subst hb
        have al : Alo G' H' (upd G' a (xo a (.ref C) (some dd))) (upd H' a (xo a (.ref C) (some dd))) := .new ev.sub na (fun ps z => by cases z)
        cases y : enterX (some i) x e1 with
        | none => simp only [y] at q; exact q.elim
        | some e2 =>
          simp only [y] at q
          have rep : Rep (rc X) (upd G' a (xo a (.ref C) (some dd))) (.exc x.cls x.fld x.val) (.ref a) := ⟨a, C, dd, v, rfl, h1, upd_same, al.sub _ _ h4, h5.mono al.sub⟩
          obtain ⟨f2, ev2, s2⟩ := put_ok (ev.alo al) (show put i (.exc x.cls x.fld x.val) e1 = some e2 from y) rep
          exact ⟨_, e2, f2, ev2, atS_leave (fun j z => by cases z; exact hp) (fun z => by cases z) (AtS.step q ((s.trans (al.stp f')).trans s2) (k.trans (Kp.set hp)))⟩
      · subst hb
        exact ih (fun h hh => hx h (List.mem_cons_of_mem _ hh)) q s ev k ⟨C, dd, v, h1, rfl, rfl, h4, h5⟩
theorem ds_try (hst : X.stack = X.env :: X.outer) (hf : X.env.frame = some X.env.locals) (hN : X.N.Nodup) (tk : Takes X W)
    (hb : ∀ (W : WX) (pn : List (Addr × Obj)) (xe : Value → Shared → Prop), Takes (X.tr pn xe) W → PassesOwn (model X.prog X.w) X.A X.env xe → DSs (X.tr pn xe) W Pr body B)
    (hd : HdsD X Pr (h₀ :: hds) l hs) (hx : ∀ h ∈ hs, h.i = none → ∀ e y e', h.S e ≠ .ex y e') : DS X W Pr (.Try body (h₀ :: hds) [] [] pos) (tryS B hs) :=
  PS.imp (ps_try_x (tb := fun W => tS (rc X) W Pr B) hst hf hN tk hb hd.hdsX) fun D σ H ⟨G, env, f, e, q⟩ => by
    refine ⟨G, env, f, e, ?_⟩
    unfold tryS at q
    cases z : B env with
    | nx e1 => rw [z] at q; exact q
    | bk e1 => rw [z] at q; exact q
    | ct e1 => rw [z] at q; exact q
    | rt r e1 => rw [z] at q; exact q
    | no => rw [z] at q; exact q
    | ex x e1 =>
      rw [z] at q
      exact fun c d σ' G' H' f' s' e' k' xr => tryH_read hd hx q s' e' k' xr
end
end DL

namespace DL
open PySem PySem.Spec PyProof.Rows L2
variable [LT]

/-! ### e.f of a held exception -/
def gXf (cl : List Str) (f : Str) : D → Option D
  | .exc c g x => if c ∈ cl ∧ g = f then some x else none
  | _ => none
section
variable {X : Cx} {W : WX} {a : Expr} {Fa : M D} {pos : Pos} {f : Str}
theorem de_xf {cl : List Str} (hcl : ∀ c ∈ cl, ∀ C, X.mg c = some (.ref C) → XfC X.K C ∧ PySem.W.findIn X.K (.ref C) f = some none) (ha : DE X W a Fa) (hb : attributeBase a f X.env (eval a X.env) = eval a X.env := by rfl) : DE X W (.Attribute a f pos) (un1 (gXf cl f) Fa) :=
  PE.imp (pe_xo ha hb) fun σ H Q h => by
    refine tM_then (P1 := Rep (rc X)) h fun G1 env1 f1 d v H1 e p q => ?_
    obtain ⟨d2, hd2, q2⟩ := q.fin' e
    cases d with
    | exc c g x =>
      have hd2 : (if c ∈ cl ∧ g = f then some x else none) = some d2 := hd2
      split at hd2
      · rename_i hc
        cases hd2
        obtain ⟨b, C, dd, w, rfl, h1, h2, h3, h4⟩ := p
        obtain ⟨t1, t2⟩ := hcl c hc.1 C h1
        exact ⟨b, C, dd, _, w, rfl, e.sub _ _ h2, t1, t2, e.sub _ _ h3, by rw [hc.2]; simp [List.lookup], q2 _ h4⟩
      · cases hd2
    | _ => cases hd2
end
/-! ### isinstance(e, C) -/
/-- the classes, by names: an own one, a built-in one -/
structure XTab where
  own : Str → Str → Option Bool
  ty : Str → String → Option Bool
structure XTabOk (X : Cx) (t : XTab) : Prop where
  own : ∀ c c' b, t.own c c' = some b → ∀ C C', X.mg c = some (.ref C) → X.mg c' = some (.ref C') → ExcC X.K C ∧ PySem.W.kitOne X.K (.ref C) (.ref C') = some b
  ty : ∀ c n b, t.ty c n = some b → ∀ C, X.mg c = some (.ref C) → ExcC X.K C ∧ PySem.W.kitOne X.K (.ref C) (.type n) = some b
def gIsX (t : XTab) : List D → Option D
  | [.exc c _ _, .gl c'] => (t.own c c').map .bl
  | [.exc c _ _, .ty n] => (t.ty c n).map .bl
  | _ => none
theorem cd_isX {X : Cx} {t : XTab} (ht : XTabOk X t) : CallD (rc X) (rIsX X.K) (gIsX t) := by
  intro G H ds vs d Q s r e q
  unfold gIsX at e
  split at e
  · rename_i c g x c'
    obtain ⟨b, e1, e2⟩ := Option.map_eq_some_iff.mp e
    subst e2
    obtain ⟨v, v', rfl, p1, p2⟩ := r.two'
    obtain ⟨a, C, dd, w, rfl, h1, h2, h3, h4⟩ := p1
    obtain ⟨a', h5, rfl⟩ := p2
    obtain ⟨t1, t2⟩ := ht.own c c' b e1 C a' h1 h5
    exact ⟨a, C, dd, .ref a', .ref a', b, rfl, s _ _ h2, ⟨_, s _ _ h3⟩, t1, fun u z => z, t2, q _ G H (.refl s) rfl⟩
  · rename_i c g x n
    obtain ⟨b, e1, e2⟩ := Option.map_eq_some_iff.mp e
    subst e2
    obtain ⟨v, v', rfl, p1, p2⟩ := r.two'
    obtain ⟨a, C, dd, w, rfl, h1, h2, h3, h4⟩ := p1
    have h5 : v' = .ty n := p2
    subst h5
    obtain ⟨t1, t2⟩ := ht.ty c n b e1 C h1
    exact ⟨a, C, dd, .ty n, .type n, b, rfl, s _ _ h2, ⟨_, s _ _ h3⟩, t1, fun u z => z, t2, q _ G H (.refl s) rfl⟩
  · cases e
/-! ### repr -/
def rRepr (K : PySem.W.Frag) : List V → Hp → VK → Prop := fun xs H Q => ∃ v p, xs = [v] ∧ Dp K H v p ∧ p.showable = true ∧ p.hasDict = false ∧ p.depth ≤ 60 ∧ p.shown.length ≤ sizeLine ∧ Q (.str p.shown) H
theorem call_repr {X : Cx} (hg : X.A.guards = some []) (hu : X.A.units + 64 < cLine) : CallR X (.builtin "repr") (rRepr X.K) := by
  intro pins s σ H xs us Q I r h
  obtain ⟨v, p, rfl, dp, h1, h2, h3, h4, q⟩ := h
  cases r with
  | cons rx rr =>
    cases rr
    rename_i u
    obtain ⟨as, rd⟩ := Dp.reads I p v u dp rx
    cases rd with
    | none => exact P.repr_of_none ⟨.str _, H, I.tok _, ⟨_, rfl⟩, q⟩
    | bool b => exact P.repr_of_bool ⟨.str _, H, I.tok _, ⟨_, rfl⟩, q⟩
    | int i t => exact P.repr_of_int (of_decide_eq_true h1) ⟨.str _, H, I.tok _, ⟨_, rfl⟩, q⟩
    | str x t => exact P.repr_of_str ⟨.str _, H, I.tok _, ⟨_, rfl⟩, q⟩ h4
    | list e1 e2 e3 e4 =>
      exact repr_of_reads' (.list e1 e2 e3 e4) h1 (PyData.noDict_hsm h2) hg (by omega) (fun _ _ z => z) (fun h' u tk k => ⟨.str _, H, I.kept (t' := tk) k, ⟨_, rfl⟩, q⟩) h4
    | tuple e1 e2 e3 e4 =>
      exact repr_of_reads' (.tuple e1 e2 e3 e4) h1 (PyData.noDict_hsm h2) hg (by omega) (fun _ _ z => z) (fun h' u tk k => ⟨.str _, H, I.kept (t' := tk) k, ⟨_, rfl⟩, q⟩) h4
    | dict e1 e2 e3 e4 e5 => exact Bool.noConfusion (show true = false from h2)
def gRepr : List D → Option D
  | [d] => (match toP d with
    | some p => if p.showable && (!p.hasDict && (decide (p.depth ≤ 60) && decide (p.shown.length ≤ 16777216))) then some (.str p.shown) else none
    | none => none)
  | _ => none
theorem cd_repr {X : Cx} : CallD (rc X) (rRepr X.K) gRepr := by
  intro G H ds vs d Q s r e q
  unfold gRepr at e
  split at e
  · rename_i d0
    split at e
    · rename_i p hp
      split at e
      · rename_i hc
        cases e
        obtain ⟨v, rfl, r1⟩ := r.one'
        obtain ⟨c1, hc⟩ := Bool.and_eq_true_iff.mp hc
        obtain ⟨c2, hc⟩ := Bool.and_eq_true_iff.mp hc
        obtain ⟨c3, c4⟩ := Bool.and_eq_true_iff.mp hc
        exact ⟨v, p, rfl, dp_of s r1 hp, c1, by simpa using c2, of_decide_eq_true c3, by rw [sizeLine_eq]; exact of_decide_eq_true c4, q _ G H (.refl s) rfl⟩
      · cases e
    · cases e
  · cases e
end DL

namespace DL
open PySem PySem.Spec PyProof.Rows L2 LamX
variable [LT]

/-! ### x(lambda: body), x a def that calls it in a try -/
/-- the slots, a lambda made -/
theorem EnvOk.lam {R : RC} {G H H1 : Hp} {env : List EV} {σ : L2.St} {f : List Addr} (e : EnvOk R G H env σ f) (x : ExtN H H1) (t : Tabs R.T H1) : EnvOk R G H1 env σ f ∧ Stp G H f G H1 f := by
  refine ⟨⟨fun a o h => x a o (e.sub a o h) (e.nt a o h), e.sl.keep (.refl G) fun a ha o h => ?_, e.nd, e.fr, e.nt, t⟩, ⟨.refl G, fun a o h _ nt => x a o h nt, fun _ _ h => .inl h, fun _ h => .inl h⟩⟩
  obtain ⟨u, hu, nt, _⟩ := e.sl.there a ha
  rw [hu] at h
  cases h
  exact x a o hu nt
/-- the caller's slots beside another frame's step -/
theorem EnvOk.frame {R : RC} {G H G' H' : Hp} {env env2 : List EV} {σ σ2 : L2.St} {f f2 : List Addr} (e : EnvOk R G H env σ f) (s : Stp G H [] G' H' f2) (k : EnvOk R G' H' env2 σ2 f2) : EnvOk R G' H' env σ f ∧ Stp G H f G' H' f := by
  refine ⟨⟨k.sub, e.sl.keep s.sub fun a ha o h => ?_, e.nd, fun a ha => ?_, k.nt, k.tb⟩, ⟨s.sub, fun a o h _ nt => s.keep a o h (by simp) nt, fun a o h => ?_, fun _ h => .inl h⟩⟩
  · obtain ⟨u, hu, nt, _⟩ := e.sl.there a ha
    rw [hu] at h
    cases h
    exact s.keep a o hu (by simp) nt
  · cases q : G' a with
    | none => rfl
    | some o =>
      obtain ⟨u, hu, nt, _⟩ := e.sl.there a ha
      rcases s.grow a o q with z | z | z
      · rw [e.fr a ha] at z
        cases z
      · exact (z.not hu nt).elim
      · cases z
  · rcases s.grow a o h with z | z | z
    · exact .inl z
    · exact .inr (.inl z)
    · cases z
theorem EnvOk.none {R : RC} {G H : Hp} {env : List EV} {σ : L2.St} {f : List Addr} (e : EnvOk R G H env σ f) (τ : L2.St) : EnvOk R G H (List.replicate τ.length .un) τ [] := by
  refine ⟨e.sub, ?_, List.nodup_nil, fun a ha => (by cases ha), e.nt, e.tb⟩
  induction τ with
  | nil => exact ⟨rfl, rfl⟩
  | cons s r ih => exact ⟨s, r, [], [], rfl, rfl, rfl, ih⟩
section
variable {X : Cx} {pins : List (Addr × Obj)} {σ : L2.St} {H HZ : Hp} {s s1 : Shared}
/-- the call of the lambda in the def that got it -/
theorem pe_heard {CXg : CXT} {Eg : XK} {Ng : List Str} {qg : Str} {sg : Scope} {g f c' : Addr} {cdg pm ctv : Value} {params : Arguments} {body : Expr} {scope : Scope} {k i : Nat} {a : Str} {pn : List (Addr × Obj)} {xe : Value → Shared → Prop} {W : WX} {tb : XK → TE} {p1 p2 : Pos}
    (I : Inv X pins σ H s) (L : LamS X.env.scope scope) (hf : s.heap.get? f = some (PySem.W.kla_obj "<lambda>" (X.env.qual ++ "<lambda>") params body scope (cloFrom X.env.cells scope.names []) pm c' ctv)) (hfn : H f = none) (hfr : f ∉ frs X.stack)
    (hbind : bindArgs (PySem.W.kla_fn "<lambda>" (X.env.qual ++ "<lambda>") params body scope (cloFrom X.env.cells scope.names []) pm (.ref c') ctv) ⟨[], []⟩ = pure [])
    (tk : Takes ((cxOf CXg X.prog X.w X.K X.mg X.base Ng qg sg g cdg X.A X.stack s H Eg).tr pn xe) W) (hg : X.A.guards = some []) (hr : Room (k + 1) (X.A.deeper (envOfC qg sg s.heap.objs.size g cdg)))
    (hbody : ∀ (A : Around) (outer : List Env) (s : Shared) (H : Hp) (E : XK), A.guards = some [] → Room k (A.deeper (lamEnv X scope s.heap.objs.size f c')) → PE (lamCx X A outer s H E scope f c') body (tb E))
    (hN : Ng[i]? = some a) (hv : Vis sg a) (hd : (a == ("__debug__" : Str)) = false := by decide) (hcd : (a == ("__classdict__" : Str)) = false := by decide) :
    PE ((cxOf CXg X.prog X.w X.K X.mg X.base Ng qg sg g cdg X.A X.stack s H Eg).tr pn xe) (.Call (.Name a p1) [] [] p2)
      (fun σZ HZ Q => σZ[i]? = some (some (.ref f)) ∧ HZ c' = some (CodeO c' (X.env.qual ++ "<lambda>")) ∧ tb (fun c d H' => W c d σZ H') σ HZ Q) := by
  refine ⟨fun pz sz σz hz Q iz h => ?_⟩
  obtain ⟨hs, hc, ht⟩ := h
  have name := (pe_var (X := (cxOf CXg X.prog X.w X.K X.mg X.base Ng qg sg g cdg X.A X.stack s H Eg).tr pn xe) (pos := p1) (i := i) hN hv hd hcd).run pz sz σz hz (fun v H1 => v = .ref f ∧ H1 = hz) iz ⟨.ref f, hs, rfl, rfl⟩
  refine wpAny_Call_Name_kw (thn name fun u s1 ⟨v, H1, I1, r1, e1, e2⟩ => ?_)
  subst e1
  rw [e2] at I1
  obtain rfl : u = Value.ref f := r1
  have at1 : s1.heap.get? f = some (PySem.W.kla_obj "<lambda>" (X.env.qual ++ "<lambda>") params body scope (cloFrom X.env.cells scope.names []) pm c' ctv) := I1.base.keep f _ hf hfn hfr (fun z => nomatch (show f ∈ ([] : List Addr) from z))
  refine PySem.W.callWith_F0 ⟨_, _, _, _, at1⟩ ?_
  have un : Un (frs X.stack) [] H hz s.heap s1.heap := I1.base
  obtain ⟨⟨oc, vs, t, hoc, hdc, hvc⟩, _, _⟩ := I1.hok c' _ hc
  have code : codeAny (model X.prog X.w) (X.A.deeper (envOfC qg sg s.heap.objs.size g cdg)) (.call (.ref f) ⟨[], []⟩) (CR (L2.CX X.prog X.w) (envOfC qg sg s.heap.objs.size g cdg :: X.stack) X.prog X.w hz s1 Q (fun c d H' => W c d σz H')) s1 := by
    refine PySem.W.kla_callFunE hr.depth at1 rfl L.co L.gen rfl ⟨c', oc, vs, t, rfl, hoc, hdc, hvc⟩ ?_
    rw [hbind]
    refine wpAny_pure (wpAny_newFunctionEnv (fun y hy => (L.own y hy).2) (fun y hy => absurd hy (by simp)) (fun h₁ hns hsb => ⟨I1.nolimit.fresh _ hsb, ?_⟩) L.kind)
    show codeAny _ _ (.expr body (lamEnv X scope s1.heap.objs.size f c')) _ _
    have kp : ∀ b o, s1.heap.get? b = some o → h₁.get? b = some o := fun b o e => hsb.extBut b o (Nat.ne_of_lt (Heap.lt_size e)) (Heap.get?_push_of_some _ e)
    have J : Inv (lamCx X (X.A.deeper (envOfC qg sg s.heap.objs.size g cdg)) (envOfC qg sg s.heap.objs.size g cdg :: X.stack) s1 hz (fun c d H' => W c d σz H') scope f c') [] σ hz { s1 with heap := h₁, toks := s1.toks + ([] : List (Str × Value)).length } :=
      lam_start2 I L I1.env0 hr.hd un hns kp
    refine PySem.W.kla_codeExpr (wpAny_mono ((hbody (X.A.deeper (envOfC qg sg s.heap.objs.size g cdg)) _ s1 hz _ hg (hr.deeper _)).run [] _ _ hz Q J ht) (fun v s' hq => ?_) fun e s' hq => hq)
    obtain ⟨w', H', J', rv, q⟩ := hq
    exact ⟨w', H', J'.os, J'.bare, J'.base, J'.hok, rv, q⟩
  have hx := passAt tk σz
  refine wpAny_call (codeAny_mono code fun r s' hq => ?_)
  cases r with
  | error e => exact hx pz hz s1 e s' I1 hq
  | ok fl =>
    cases fl with
    | ret u => exact I1.after hq
    | next => exact hq.elim
    | brk => exact hq.elim
    | cont => exact hq.elim
end
end DL

namespace DL
open PySem PySem.Spec PyProof.Rows L2 LamX
variable [LT]

/-- the shapes of a def that calls what it got: a() dropped, or told beside a word; clauses; perhaps a last return None -/
inductive HBody (a : Str) : Option Str → List Stmt → List ExceptHandler → Prop
  | drop {p1 p2 p3 p4 p5 pt : Pos} {j : Nat} {hds : List ExceptHandler} : HBody a none [.Try [.Expr (.Call (.Name a p1) [] [] p2) p3] hds [] [] pt, .Return (some (.Constant .none j p4)) p5] hds
  | drop0 {p1 p2 p3 pt : Pos} {hds : List ExceptHandler} : HBody a none [.Try [.Expr (.Call (.Name a p1) [] [] p2) p3] hds [] [] pt] hds
  | told {p0 p1 p2 p3 p4 pt : Pos} {j kk : Nat} {t : Str} {hds : List ExceptHandler} : HBody a (some t) [.Try [.Return (some (.Tuple [.Constant (.str t) j p0, .Call (.Name a p1) [] [] p2] kk p3)) p4] hds [] [] pt] hds
  | told1 {p0 p1 p2 p3 p4 p5 p6 pt : Pos} {j j2 kk : Nat} {t : Str} {hds : List ExceptHandler} : HBody a (some t) [.Try [.Return (some (.Tuple [.Constant (.str t) j p0, .Call (.Name a p1) [] [] p2] kk p3)) p4] hds [] [] pt, .Return (some (.Constant .none j2 p5)) p6] hds
/-- what it makes of the answer -/
def toldD (kd : Option Str) (d : D) : D := match kd with
  | none => .non
  | some t => .tup [.str t, d]
def heardM (kd : Option Str) (n : Nat) (hs : List Hd) (Fb : M D) : M D := fun e => match Fb e with
  | .ok d e1 => .ok (toldD kd d) e1
  | .ex x e1 => (match tryH x (List.replicate n .un) hs with
    | .rt (.v d) _ => .ok d e1
    | _ => .no)
  | .no => .no
/-- the reading of the body, the call's reading given -/
def tHeard (kd : Option Str) (tc : WX → TE) (W : WX) : TS := fun D σ H => tc W σ H fun v H1 => match kd with
  | none => D.nx σ H1
  | some t => [V.str t, v].length ≤ sizeLine ∧ Newt [.str t, v] H1 fun r H2 => D.rt r H2
section
variable {Z : Cx} {a : Str} {kd : Option Str} {body : List Stmt} {hds : List ExceptHandler} {tc : WX → TE} {l : List Clz} {Wout : WX}
theorem heard_body (hb : HBody a kd body hds) (hh : ∃ h r, hds = h :: r) (hst : Z.stack = Z.env :: Z.outer) (hf : Z.env.frame = some Z.env.locals) (hN : Z.N.Nodup) (tk : Takes Z Wout)
    (ha : ∀ (W : WX) (pn : List (Addr × Obj)) (xe : Value → Shared → Prop) (p1 p2 : Pos), Takes (Z.tr pn xe) W → PE (Z.tr pn xe) (.Call (.Name a p1) [] [] p2) (tc W)) (hd : HdsX Z hds l)
    (hs1 : ∀ p1 p2, starEach [Expr.Call (.Name a p1) [] [] p2] Z.env = [(false, eval (.Call (.Name a p1) [] [] p2) Z.env)] := by intro _ _; rfl) :
    ∃ t, PSs Z body t ∧ ∀ (Q : VK) σ H, tHeard kd tc (wMx Wout { nx := fun _ H' => Q .non H', rt := Q } l) { nx := fun _ H' => Q .non H', rt := Q } σ H → t { nx := fun _ H' => Q .non H', rt := Q } σ H := by
  obtain ⟨h0, r, rfl⟩ := hh
  have b1 : ∀ {p1 p2 p3 : Pos}, ∀ (W : WX) (pn : List (Addr × Obj)) (xe : Value → Shared → Prop), Takes (Z.tr pn xe) W → PassesOwn (model Z.prog Z.w) Z.A Z.env xe → PSs (Z.tr pn xe) [.Expr (.Call (.Name a p1) [] [] p2) p3] (tHeard none tc W) := fun W pn xe tk _ => pss_one (ps_expr (ha W pn xe _ _ tk))
  have b2 : ∀ {p0 p1 p2 p3 p4 : Pos} {j kk : Nat} {t : Str}, ∀ (W : WX) (pn : List (Addr × Obj)) (xe : Value → Shared → Prop), Takes (Z.tr pn xe) W → PassesOwn (model Z.prog Z.w) Z.A Z.env xe →
      PSs (Z.tr pn xe) [.Return (some (.Tuple [.Constant (.str t) j p0, .Call (.Name a p1) [] [] p2] kk p3)) p4] (tHeard (some t) tc W) := fun {p0 p1 p2 p3 p4 j kk t} W pn xe tk _ => by
    have hp : PA (Z.tr pn xe) [.Constant (.str t) j p0, .Call (.Name a p1) [] [] p2] (tCons (tC (.str t)) (tCons (tc W) tNil)) := pa_cons pe_str (pa_cons (ha W pn xe _ _ tk) pa_nil)
    exact pss_one (ps_ret (pe_tupZ hp))
  cases hb with
  | drop =>
    exact ⟨_, pss_cons (ps_try_x (tb := tHeard none tc) hst hf hN tk b1 hd) (pss_one (ps_ret pe_non)), fun Q σ H q => q⟩
  | drop0 => exact ⟨_, pss_one (ps_try_x (tb := tHeard none tc) hst hf hN tk b1 hd), fun Q σ H q => q⟩
  | told => exact ⟨_, pss_one (ps_try_x (tb := tHeard (some _) tc) hst hf hN tk b2 hd), fun Q σ H q => q⟩
  | told1 =>
    exact ⟨_, pss_cons (ps_try_x (tb := tHeard (some _) tc) hst hf hN tk b2 hd) (pss_one (ps_ret pe_non)), fun Q σ H q => q⟩
/-- from the caller's slots to the body's reading -/
theorem heard_read {X : Cx} {W : WX} {Pr : Nat → Bool} {Fb : M D} {hs : List Hd} {σ σZ : L2.St} {G H : Hp} {env : List EV} {f : List Addr} {Q : VK} (ev : EnvOk (rc X) G H env σ f) (hrc : rc Z = rc X) (hd : HdsD Z Pr hds l hs) (hx : ∀ h ∈ hs, h.i = none → ∀ e y e', h.S e ≠ .ex y e')
    (q : At (rc X) W (Rep (rc X)) (heardM kd σZ.length hs Fb env) G H f σ Q) :
    tHeard kd (fun W' _ H' Q' => tM (rc X) (fun c d _ H' => W' c d σZ H') (Rep (rc X)) Fb σ H' Q') (wMx (fun _ _ _ _ => False) { nx := fun _ H' => Q .non H', rt := Q } l) { nx := fun _ H' => Q .non H', rt := Q } σZ H := by
  refine ⟨G, env, f, ev, ?_⟩
  unfold heardM at q
  cases z : Fb env with
  | no => rw [z] at q; exact q
  | ok d e1 =>
    rw [z] at q
    cases kd with
    | none => exact fun v G' H' f' s' e' p' => q .non G' H' f' s' e' rfl
    | some t =>
      intro v G' H' f' s' e' p'
      refine ⟨by rw [sizeLine_eq]; exact Nat.le_of_ble_eq_true rfl, fun p o hp ho => ?_⟩
      have al : Alo G' H' (upd G' p (.frz o (.tup [.str t, v]))) (upd H' p (.frz o (.tup [.str t, v]))) := .new e'.sub hp
      exact q (.ref p) _ _ f' (s'.trans (al.stp f')) (e'.alo al) ⟨p, _, rfl, .inl ⟨o, upd_same, ho⟩, .str t, [v], rfl, rfl, v, [], rfl, p'.mono al.sub, rfl⟩
  | ex x e1 =>
    rw [z] at q
    intro c d G' H' f' s' e' xr
    have eZ : EnvOk (rc Z) G' H' (List.replicate σZ.length .un) σZ [] := by
      rw [hrc]
      exact e'.none σZ
    have xr2 : ExR (rc Z) G' x c d := by
      rw [hrc]
      exact xr
    refine tryH_read (W := fun _ _ _ _ => False) (G := G') (H := H') (f := []) (σ := σZ) hd hx ?_ (.refl G' H' []) eZ (.refl σZ) xr2
    cases y : tryH x (List.replicate σZ.length .un) hs with
    | rt r e2 =>
      simp only [y] at q
      intro v σ2 G2 H2 f2 s2 k2 _
      cases r with
      | v d2 =>
        have q : At (rc X) W (Rep (rc X)) (.ok d2 e1) G H f σ Q := q
        rw [hrc] at k2
        obtain ⟨k3, s3⟩ := e'.frame s2 k2
        obtain ⟨s0, sr, f0, fr, h1, h2, h3, h4⟩ := k2.sl
        cases h1
        obtain ⟨_, w, hw, hr⟩ := h3
        cases hw
        exact q v G2 H2 f' (s'.trans s3) k3 hr
      | un => exact q.elim
      | ol xs => exact q.elim
      | oi c fn fv => exact q.elim
      | od _ _ _ => exact q.elim
    | nx e2 => simp only [y] at q; exact q.elim
    | bk e2 => simp only [y] at q; exact q.elim
    | ct e2 => simp only [y] at q; exact q.elim
    | ex x2 e2 => simp only [y] at q; exact q.elim
    | no => simp only [y] at q; exact q.elim
end
end DL

namespace DL
open PySem PySem.Spec PyProof.Rows L2
variable [LT]

/-! ### own lists of plain data -/
def plainL : List EV → Option (List D)
  | [] => some []
  | .v d :: r => (plainL r).map fun ds => d :: ds
  | _ => none
theorem plainL_map : ∀ ds : List D, plainL (ds.map .v) = some ds
  | [] => rfl
  | d :: ds => by
    show (plainL (ds.map .v)).map _ = _
    rw [plainL_map ds]
    rfl
theorem plainL_eq : ∀ {xs : List EV} {ds : List D}, plainL xs = some ds → xs = ds.map .v
  | [], ds, h => by cases h; rfl
  | .v d :: r, ds, h => by
    obtain ⟨e, h1, h2⟩ := Option.map_eq_some_iff.mp (show (plainL r).map _ = some ds from h)
    subst h2
    rw [plainL_eq h1]
    rfl
  | .un :: r, ds, h => by cases h
  | .ol _ :: r, ds, h => by cases h
  | .oi _ _ _ :: r, ds, h => by cases h
  | .od _ _ _ :: r, ds, h => by cases h
theorem plainL_sls {R : RC} {G H : Hp} : ∀ {ds : List D} {vs : List V} {f : List Addr}, Sls R G H (ds.map .v) (vs.map some) f → Reps R G ds vs ∧ f = []
  | [], vs, f, h => by
    obtain ⟨h1, h2⟩ := h
    exact ⟨List.map_eq_nil_iff.mp h1, h2⟩
  | d :: ds, vs, f, h => by
    obtain ⟨s0, sr, f0, fr, h1, h2, h3, h4⟩ := h
    cases vs with
    | nil => cases h1
    | cons v r =>
      cases h1
      obtain ⟨e0, w, hw, hr⟩ := h3
      cases hw
      obtain ⟨h5, h6⟩ := plainL_sls h4
      subst h2 e0 h6
      exact ⟨⟨v, r, rfl, hr, h5⟩, rfl⟩
/-- slot i's own list of plain data -/
def getO (i : Nat) (e : List EV) : Option (List D) := match e[i]? with
  | some (.ol xs) => plainL xs
  | _ => none
theorem own_at {R : RC} {G H : Hp} {env : List EV} {σ : L2.St} {f : List Addr} {i : Nat} {ds : List D} (e : EnvOk R G H env σ f) (h : getO i env = some ds) :
    ∃ a vs, σ[i]? = some (some (.ref a)) ∧ H a = some (.lst vs) ∧ Reps R G ds vs ∧ G a = none ∧
      ∀ (ds' : List D) (vs' : List V), Reps R G ds' vs' → EnvOk R G (upd H a (.lst vs')) (env.set i (.ol (ds'.map .v))) σ f ∧ Stp G H f G (upd H a (.lst vs')) f := by
  unfold getO at h
  split at h
  · rename_i xs hi
    have hx := plainL_eq h
    subst hx
    obtain ⟨s0, f1, f2, f3, h1, h2, h3, h4⟩ := e.sl.at hi
    obtain ⟨a, vs, f', e1, e2, e3, e4⟩ := h3
    obtain ⟨r, e5⟩ := plainL_sls e4
    subst e1 e3 e5 h2
    have ga : G a = none := e.fr a (by simp)
    have hσ : σ.set i (some (.ref a)) = σ := by
      apply List.ext_getElem?
      intro j
      by_cases hj : j = i
      · subst hj; rw [List.getElem?_set_self (List.getElem?_eq_some_iff.mp h1).1, h1]
      · rw [List.getElem?_set_ne (Ne.symm hj)]
    refine ⟨a, vs, h1, e2, r, ga, fun ds' vs' r' => ⟨⟨fun c u z => ?_, ?_, e.nd, e.fr, e.nt, tabs_upd e.tb (.lst e2)⟩, ⟨.refl G, fun c u z hc _ => ?_, fun _ _ z => .inl z, fun _ z => .inl z⟩⟩⟩
    · rw [upd_ne (ne_of_none z ga)]; exact e.sub c u z
    · have sl := h4 G (upd H a (.lst vs')) (.ol (ds'.map .v)) (some (.ref a)) [a] (.refl G) (fun c hc u z => by
        have nd := e.nd
        rw [upd_ne]
        · exact z
        · intro y
          subst y
          rw [List.append_assoc] at nd
          have n1 := List.nodup_append.mp nd
          rcases List.mem_append.mp hc with k | k
          · exact n1.2.2 c k c (List.mem_cons_self ..) rfl
          · exact (List.nodup_append.mp n1.2.1).2.2 c (List.mem_cons_self ..) c k rfl) ⟨a, vs', [], rfl, upd_same, rfl, Sls.plain r'⟩
      rw [hσ] at sl
      exact sl
    · rw [upd_ne (fun y => hc (by subst y; simp))]; exact z
  · cases h
end DL

namespace DL
open PySem PySem.Spec PyProof.Rows L2
variable [LT]

section
variable {X : Cx} {W : WX} {Pr : Nat → Bool} {a b : Expr} {Fa Fb : M D} {pos p p1 p2 p3 cpos apos : Pos} {i : Nat} {x : Str}
/-! ### x.append(e) -/
def putO (i : Nat) (ds : List D) (e : List EV) : List EV := e.set i (.ol (ds.map .v))
def appS (i : Nat) (Fa : M D) : MS := fun e => match getO i e with
  | none => .no
  | some _ => bndS Fa (fun d e1 => match getO i e1 with
    | some ds => if ds.length < 16777216 then .nx (putO i (ds ++ [d]) e1) else .no
    | none => .no) e
theorem tS_bnd' {α β : Type} {P : Hp → α → β → Prop} {F : M α} {k : α → MS} {R : RC} {D : Ends} {σ : L2.St} {G H : Hp} {env : List EV} {f : List Addr} {Q : β → Hp → Prop} (e : EnvOk R G H env σ f) (h : AtS R W Pr (bndS F k env) G H f σ D)
    (w : ∀ G1 env1 f1 a b H1, EnvOk R G1 H1 env1 σ f1 → P G1 a b → AtS R W Pr (k a env1) G1 H1 f1 σ D → Q b H1) : tM R W P F σ H Q := by
  refine tS_bnd (P := P) (F := F) (k := k) ⟨G, env, f, e, h⟩ w
theorem ds_append (hv : PE X (.Name x p) (tVar i)) (ha : DE X W a Fa) (hs : starEach [a] X.env = (false, eval a X.env) :: starEach [] X.env := by rfl) (hbase : attributeBase (.Name x p) "append" X.env (eval (.Name x p) X.env) = eval (.Name x p) X.env := by rfl)
    (hfew : ((backTo cpos (starEach [a] X.env)).all (fun x => !x.1) && (backToKw cpos (keywordEach [] X.env)).all (fun x => x.1.isSome)
      && decide ([a].length + ([] : List Keyword).length + (if ([] : List Keyword).isEmpty then 0 else 1) < 30)) = true := by rfl)
    (hline : (apos.endLine == cpos.line) = true := by rfl) (hplain : (backTo cpos (starEach [] X.env)).any (·.1) = false := by rfl) (hsw : swapsWith (.Call (.Attribute (.Name x p) "append" apos) [a] [] cpos) none pos.line X.env = pure false := by rfl) :
    DS X W Pr (.Expr (.Call (.Attribute (.Name x p) "append" apos) [a] [] cpos) pos) (appS i Fa) := by
  have pe := pe_bm PySem.F.plainAttrs_list PySem.F.slot_list_append PySem.F.type_list_append mt_append (cpos := cpos) (apos := apos) hv (pa_cons ha pa_nil hs) hbase hfew hline hs hplain
  refine PS.imp (ps_expr pe hsw) fun D σ H ⟨G, env, f, e, q⟩ => ?_
  unfold appS at q
  cases z : getO i env with
  | none => rw [z] at q; exact q.elim
  | some ds0 =>
    rw [z] at q
    obtain ⟨l, vs, h1, h2, h3, h4, _⟩ := own_at e z
    refine ⟨.ref l, h1, .inl ⟨rfl, vs, SqL.of h2⟩, ?_⟩
    refine tS_bnd' (P := Rep (rc X)) e q fun G1 env1 f1 d v H1 e1 r1 q1 => ?_
    cases z1 : getO i env1 with
    | none => simp only [z1] at q1; exact q1.elim
    | some ds =>
      simp only [z1] at q1
      obtain ⟨l2, us, k1, k2, k3, k4, k5⟩ := own_at e1 z1
      rw [h1] at k1
      cases k1
      by_cases hz : ds.length < 16777216
      · rw [if_pos hz] at q1
        obtain ⟨e2, s2⟩ := k5 (ds ++ [d]) (us ++ [v]) (k3.append (.one r1))
        exact ⟨l, us, v, rfl, rfl, k2, by rw [sizeLine_eq, ← k3.length]; exact hz, q1 σ _ _ f1 s2 e2 (.refl σ)⟩
      · rw [if_neg hz] at q1
        exact q1.elim
/-! ### x[j] = e, x one's own list -/
def setIx (i : Nat) (Fe Fi : M D) : MS := bndS Fe fun d e0 => match getO i e0 with
  | none => .no
  | some _ => bndS Fi (fun k e1 => match getO i e1, k with
    | some ds, .int z => (match ixN ds.length z with
      | some j => .nx (putO i (ds.set j d) e1)
      | none => .no)
    | _, _ => .no) e0
theorem Reps.set {R : RC} {G : Hp} {d : D} {v : V} (r : Rep R G d v) : ∀ {xs : List D} {vs : List V} (j : Nat), Reps R G xs vs → Reps R G (xs.set j d) (vs.set j v)
  | [], vs, j, h => by
    have e : vs = [] := h
    subst e
    exact h
  | x :: xs, vs, 0, h => by
    obtain ⟨u, w, h1, h2, h3⟩ := h
    subst h1
    exact ⟨v, w, rfl, r, h3⟩
  | x :: xs, vs, j + 1, h => by
    obtain ⟨u, w, h1, h2, h3⟩ := h
    subst h1
    exact ⟨u, w.set j v, rfl, h2, Reps.set r j h3⟩
theorem ds_setIx (hv : PE X (.Name x p) (tVar i)) (ha : DE X W a Fa) (hb : DE X W b Fb)
    (has : ∀ v, assign (.Subscript (.Name x p) b p2) X.env v = (do
      let ov ← holding [v] (eval (.Name x p) X.env)
      let iv ← holding [v, ov] (eval b X.env)
      standAt p2
      holding [v, ov, iv] (setItem ov iv v)
      release [v, ov, iv] []) := by intro _; rfl)
    (hsw : swapsWithSole [.Subscript (.Name x p) b p2] a pos.line X.env = pure false := by rfl) (hw : swappedStores [.Subscript (.Name x p) b p2] a X.env = pure none := by rfl) (h1 : (assignEach [.Subscript (.Name x p) b p2] X.env).map (·.2) = [assign (.Subscript (.Name x p) b p2) X.env] := by rfl) :
    DS X W Pr (.Assign [.Subscript (.Name x p) b p2] a pos) (setIx i Fa Fb) := by
  refine PS.imp (ps_asg ha (pg_sub hv hb set_list has) hsw hw h1) fun D σ H h => ?_
  refine tS_bnd (P := Rep (rc X)) h fun G1 env1 f1 d v H1 e1 r1 q1 => ?_
  cases z : getO i env1 with
  | none => rw [z] at q1; exact q1.elim
  | some ds0 =>
    rw [z] at q1
    obtain ⟨l, vs, h1, h2, h3, h4, _⟩ := own_at e1 z
    refine ⟨.ref l, h1, ?_⟩
    refine ⟨G1, env1, f1, e1, ?_⟩
    unfold bndS at q1
    cases y : Fb env1 with
    | no => rw [y] at q1; exact q1
    | ex x e2 => rw [y] at q1; exact fun c dd G' H' f' s' e' x' => q1 c dd σ G' H' f' s' e' (.refl σ) x'
    | ok k e2 =>
      rw [y] at q1
      intro u G2 H2 f2 s2 k2 rk
      have q2 := AtS.step q1 s2 (.refl σ)
      dsimp only at q2
      cases z1 : getO i e2 with
      | none => rw [z1] at q2; exact q2.elim
      | some ds =>
        rw [z1] at q2
        cases k with
        | int z =>
          dsimp only at q2
          cases z2 : ixN ds.length z with
          | none => rw [z2] at q2; exact q2.elim
          | some j =>
            rw [z2] at q2
            obtain ⟨l2, us, k1, k2', k3, k4, k5⟩ := own_at k2 z1
            rw [h1] at k1
            cases k1
            obtain ⟨e3, s3⟩ := k5 (ds.set j d) (us.set j v) (Reps.set (r1.mono s2.sub) j k3)
            exact ⟨l, us, z, j, rfl, rk, k2', by rw [← k3.length]; exact z2, q2 σ _ _ f2 s3 e3 (.refl σ)⟩
        | _ => exact q2.elim
/-! ### x[j] of one's own list -/
def pkIx (i : Nat) (Fb : M D) : M D := fun e => match getO i e with
  | none => .no
  | some _ => bnd Fb (fun k e1 => match getO i e1 with
    | some ds => ofO (gIx (.lst ds) k) e1
    | none => .no) e
theorem de_pkIx (hv : PE X (.Name x p) (tVar i)) (hb : DE X W b Fb) (hs : PlainIx b) : DE X W (.Subscript (.Name x p) b pos) (pkIx i Fb) := PE.imp (pe_ix ix_seq hv hb hs) fun σ H Q ⟨G, env, f, e, q⟩ => by
  unfold pkIx at q
  cases z : getO i env with
  | none => rw [z] at q; exact q.elim
  | some ds0 =>
    rw [z] at q
    obtain ⟨l, vs, h1, h2, h3, h4, _⟩ := own_at e z
    refine ⟨.ref l, h1, ?_⟩
    refine At.then (P1 := Rep (rc X)) e q fun G1 env1 f1 k u H1 s1 e1 r1 q1 => ?_
    cases z1 : getO i env1 with
    | none => rw [z1] at q1; exact q1.elim
    | some ds =>
      rw [z1] at q1
      obtain ⟨l2, us, k1, k2, k3, k4, k5⟩ := own_at e1 z1
      rw [h1] at k1
      cases k1
      obtain ⟨d, hd, q2⟩ := q1.fin' e1
      cases k with
      | int z =>
        obtain ⟨w, w1, w2⟩ := k3.atI (show atI ds z = some d from hd)
        exact .inl ⟨l, us, z, w, rfl, r1, SqL.of k2, w1, q2 _ w2⟩
      | _ => cases hd
/-! ### several values, own ones among them -/
/-- what is held beside -/
theorem EnvOk.hold {R : RC} {G H : Hp} {ev : EV} {env : List EV} {v : Option V} {σ : L2.St} {f : List Addr} (e : EnvOk R G H (ev :: env) (v :: σ) f) : ∃ fr, EnvOk R G H env σ fr ∧ (∀ c ∈ fr, c ∈ f) ∧
    ∀ (G' H' : Hp) (e' : List EV) (σ' : L2.St) (f' : List Addr), Stp G H fr G' H' f' → EnvOk R G' H' e' σ' f' → ∃ f2, EnvOk R G' H' (ev :: e') (v :: σ') f2 ∧ Stp G H f G' H' f2 := by
  obtain ⟨s0, sr, f0, fr, h1, h2, h3, h4⟩ := e.sl
  cases h1
  subst h2
  have nd := List.nodup_append.mp e.nd
  refine ⟨fr, ⟨e.sub, h4, nd.2.1, fun c hc => e.fr c (List.mem_append_right _ hc), e.nt, e.tb⟩, fun c hc => List.mem_append_right _ hc, fun G' H' e' σ' f' s k => ?_⟩
  have dis : ∀ c, c ∈ f0 → c ∉ fr := fun c hc hr => nd.2.2 c hc c hr rfl
  refine ⟨f0 ++ f', ⟨k.sub, ⟨v, σ', f0, f', rfl, rfl, h3.keep s.sub fun c hc o ho => ?_, k.sl⟩, List.nodup_append.mpr ⟨nd.1, k.nd, fun c hc c2 hc2 z => ?_⟩, fun c hc => ?_, k.nt, k.tb⟩, ⟨s.sub, fun c o ho hc nt => s.keep c o ho (fun z => hc (List.mem_append_right _ z)) nt, fun c o ho => ?_, fun c hc => ?_⟩⟩
  · obtain ⟨u, hu, nt, _⟩ := h3.there c hc
    rw [hu] at ho
    cases ho
    exact s.keep c o hu (dis c hc) nt
  · subst z
    obtain ⟨u, hu, nt, _⟩ := h3.there c hc
    rcases s.own c hc2 with y | y
    · exact dis c hc y
    · exact y.not hu nt
  · rcases List.mem_append.mp hc with y | y
    · cases q : G' c with
      | none => rfl
      | some o =>
        obtain ⟨u, hu, nt, _⟩ := h3.there c y
        rcases s.grow c o q with w | w | w
        · rw [e.fr c (List.mem_append_left _ y)] at w
          cases w
        · exact (w.not hu nt).elim
        · exact absurd w (dis c y)
    · exact k.fr c y
  · exact (s.grow c o ho).imp id (Or.imp id fun z => List.mem_append_right _ z)
  · rcases List.mem_append.mp hc with y | y
    · exact .inl (List.mem_append_left _ y)
    · exact (s.own c y).imp (fun z => List.mem_append_right _ z) id
def AtOs (R : RC) (W : WX) (m : Out (List EV)) (G H : Hp) (f : List Addr) (σ : L2.St) (Q : List V → Hp → Prop) : Prop :=
  match m with
  | .ok evs e => ∀ vs G' H' f', Stp G H f G' H' f' → EnvOk R G' H' (evs ++ e) (vs.map some ++ σ) f' → vs.length = evs.length → Q vs H'
  | .ex x e => ∀ c d G' H' f', Stp G H f G' H' f' → EnvOk R G' H' e σ f' → ExR R G' x c d → W c d σ H'
  | .no => False
theorem AtOs.step {R : RC} {m : Out (List EV)} {G H G1 H1 : Hp} {f f1 : List Addr} {σ : L2.St} {Q : List V → Hp → Prop} (h : AtOs R W m G H f σ Q) (s : Stp G H f G1 H1 f1) : AtOs R W m G1 H1 f1 σ Q := by
  cases m with
  | ok a e => exact fun b G' H' f' s' => h b G' H' f' (s.trans s')
  | ex x e => exact fun c d G' H' f' s' => h c d G' H' f' (s.trans s')
  | no => exact h
def DOs (X : Cx) (W : WX) (es : List Expr) (F : M (List EV)) : Prop := PA X es fun σ H Q => ∃ G env f, EnvOk (rc X) G H env σ f ∧ AtOs (rc X) W (F env) G H f σ Q
theorem dos_nil : DOs X W [] (fun e => .ok [] e) := PA.imp pa_nil fun σ H Q ⟨G, env, f, e, q⟩ => q [] G H f (.refl _ _ _) e rfl
def consO (Fo : M EV) (Fs : M (List EV)) : M (List EV) := bnd Fo fun ev => bnd Fs fun evs e => .ok (ev :: evs) e
theorem dos_cons {es : List Expr} {Fo : M EV} {Fs : M (List EV)} (ha : DO X W a Fo) (hr : DOs X W es Fs) (hs : starEach (a :: es) X.env = (false, eval a X.env) :: starEach es X.env := by rfl) : DOs X W (a :: es) (consO Fo Fs) :=
  PA.imp (pa_cons ha hr hs) fun σ H Q ⟨G, env, f, e, q⟩ => by
    have q : AtOs (rc X) W ((Fo env).bind fun ev => bnd Fs fun evs e => .ok (ev :: evs) e) G H f σ Q := q
    refine ⟨G, env, f, e, ?_⟩
    cases z : Fo env with
    | no => rw [z] at q; exact q
    | ex x e1 => rw [z] at q; exact q
    | ok ev e1 =>
      rw [z] at q
      intro v G1 H1 f1 s1 k1
      have q : AtOs (rc X) W ((Fs e1).bind fun evs e => .ok (ev :: evs) e) G H f σ Q := q
      have q1 := AtOs.step q s1
      obtain ⟨fr, k2, hfr, hold⟩ := k1.hold
      refine ⟨G1, e1, fr, k2, ?_⟩
      cases z2 : Fs e1 with
      | no => rw [z2] at q1; exact q1
      | ex x e2 =>
        rw [z2] at q1
        intro c d G' H' f' s' k' xr
        exact q1 c d G' H' f' ((Stp.less hfr).trans s') k' xr
      | ok evs e2 =>
        rw [z2] at q1
        intro vs G' H' f' s' k' hl
        obtain ⟨f3, k3, s3⟩ := hold G' H' _ _ f' s' k'
        exact q1 (v :: vs) G' H' f3 s3 k3 (by simp [hl])
def vM (Fa : M D) : M EV := bnd Fa fun d e => .ok (.v d) e
theorem do_of_de (h : DE X W a Fa) : DO X W a (vM Fa) := PE.imp h fun σ H Q ⟨G, env, f, e, q⟩ => by
  have q : AtO (rc X) W ((Fa env).bind fun d e => .ok (.v d) e) G H f σ Q := q
  refine ⟨G, env, f, e, ?_⟩
  cases z : Fa env with
  | no => rw [z] at q; exact q
  | ex x e1 => rw [z] at q; exact q
  | ok d e1 =>
    rw [z] at q
    exact fun v G' H' f' s' e' p' => q v G' H' f' s' (e'.push p')
/-! ### x, y = (a, b) -/
def parS (i j : Nat) (Fs : M (List EV)) : MS := bndS Fs fun evs e => match evs with
  | [u, v] => (match putE i u e with
    | some e1 => (match putE j v e1 with
      | some e2 => .nx e2
      | none => .no)
    | none => .no)
  | _ => .no
theorem par_put {R : RC} {G H : Hp} {u v : EV} {e e1 e2 : List EV} {uv vv : Option V} {σ : L2.St} {f : List Addr} {i j : Nat} (k : EnvOk R G H (u :: v :: e) (uv :: vv :: σ) f) (h1 : putE i u e = some e1) (h2 : putE j v e1 = some e2) :
    ∃ f', EnvOk R G H e2 ((σ.set i uv).set j vv) f' ∧ Stp G H f G H f' := by
  have p1 : putE (i + 1) u (v :: e) = some (v :: e1) := by
    unfold putE at h1 ⊢
    split at h1
    · rename_i hl
      cases h1
      rw [if_pos (by simpa using hl)]
      rfl
    · cases h1
  obtain ⟨f1, k1, s1⟩ := putE_ok k p1
  obtain ⟨f2, k2, s2⟩ := putE_ok (show EnvOk R G H (v :: e1) (vv :: σ.set i uv) f1 from k1) h2
  exact ⟨f2, k2, s1.trans s2⟩
theorem tS_bndOs {F : M (List EV)} {k : List EV → MS} {R : RC} {D : Ends} {σ : L2.St} {H : Hp} {Q : List V → Hp → Prop} (h : tS R W Pr (bndS F k) D σ H)
    (w : ∀ G1 env1 f1 evs vs H1, EnvOk R G1 H1 (evs ++ env1) (vs.map some ++ σ) f1 → vs.length = evs.length → AtS R W Pr (k evs env1) G1 H1 f1 σ D → Q vs H1) : ∃ G env f, EnvOk R G H env σ f ∧ AtOs R W (F env) G H f σ Q := by
  obtain ⟨G, env, f, e, q⟩ := h
  refine ⟨G, env, f, e, ?_⟩
  unfold bndS at q
  cases z : F env with
  | ok a e1 => rw [z] at q; exact fun b G' H' f' s' e' hl => w G' e1 f' a b H' e' hl (q.step s' (.refl σ))
  | ex x e1 => rw [z] at q; exact fun c d G' H' f' s' e' x' => q c d σ G' H' f' s' e' (.refl σ) x'
  | no => rw [z] at q; exact q
theorem ds_par {j : Nat} {y : Str} {px py pt : Pos} {kt k2 : Nat} {pt2 : Pos} {Fs : M (List EV)} (hc : X.calm = true) (hN : X.N.Nodup) (hi : X.N[i]? = some x) (hj : X.N[j]? = some y) (hij : i ≠ j) (hx : X.env.scope.names.lookup x = some .local) (hy : X.env.scope.names.lookup y = some .local)
    (hpi : Pr i = false) (hpj : Pr j = false) (ha : DOs X W [a, b] Fs) (hw : swappedStores [.Tuple [.Name x px, .Name y py] kt pt] (.Tuple [a, b] k2 pt2) X.env = pure (some [x, y]))
    (hs : swapsWithSole [.Tuple [.Name x px, .Name y py] kt pt] (.Tuple [a, b] k2 pt2) pos.line X.env = pure false := by rfl) :
    DS X W Pr (.Assign [.Tuple [.Name x px, .Name y py] kt pt] (.Tuple [a, b] k2 pt2) pos) (parS i j Fs) :=
  PS.imp (ps_par hc hN hi hj hij hx hy ha hw hs) fun D σ H h => tS_bndOs h fun G1 env1 f1 evs vs H1 e hl q => by
    unfold parS at *
    split at q
    · rename_i u v
      cases vs with
      | nil => cases hl
      | cons a0 r =>
        cases r with
        | nil => cases hl
        | cons b0 r =>
          cases r with
          | cons c0 r => simp at hl
          | nil =>
            cases z1 : putE i u env1 with
            | none => rw [z1] at q; exact q.elim
            | some e1 =>
              simp only [z1] at q
              cases z2 : putE j v e1 with
              | none => rw [z2] at q; exact q.elim
              | some e2 =>
                rw [z2] at q
                obtain ⟨f2, k2, s2⟩ := par_put e z1 z2
                exact ⟨a0, b0, rfl, q _ G1 H1 f2 s2 k2 ((Kp.set hpi).trans (Kp.set hpj))⟩
    · exact q.elim
/-! ### a, b = e -/
def asgS (Fa : M D) (t : TgF) : MS := bndS Fa fun d e => match t d e with
  | some e1 => .nx e1
  | none => .no
theorem ds_asg {tg : Expr} {t : TgF} (ha : DE X W a Fa) (hg : DG X Pr tg t) (hs : swapsWithSole [tg] a pos.line X.env = pure false := by rfl) (hw : swappedStores [tg] a X.env = pure none := by rfl)
    (h1 : (assignEach [tg] X.env).map (·.2) = [assign tg X.env] := by rfl) : DS X W Pr (.Assign [tg] a pos) (asgS Fa t) :=
  PS.imp (ps_asg ha hg hs hw h1) fun D σ H h => tS_bnd (P := Rep (rc X)) h fun G1 env1 f1 d v H1 e p q => by
    cases z : t d env1 with
    | none => rw [z] at q; exact q.elim
    | some e1 =>
      rw [z] at q
      exact ⟨G1, env1, f1, d, e1, e, p, z, fun σ' f' k s kp => q σ' G1 H1 f' s k kp⟩
end
end DL

namespace DL
open PySem PySem.Spec PyProof.Rows L2
variable [LT]

/-! ### own instances with plain fields -/
def getI (i : Nat) (e : List EV) : Option (Str × List Str × List D) := match e[i]? with
  | some (.oi c fn fv) => (plainL fv).map fun ds => (c, fn, ds)
  | _ => none
theorem map_some_snd (fs : List (Str × V)) : (fs.map fun p => some p.2) = (fs.map (·.2)).map some := by simp
theorem inst_at {R : RC} {G H : Hp} {env : List EV} {σ : L2.St} {f : List Addr} {i : Nat} {c : Str} {fn : List Str} {ds : List D} (e : EnvOk R G H env σ f) (h : getI i env = some (c, fn, ds)) :
    ∃ a dx C fs, σ[i]? = some (some (.ref a)) ∧ R.mg c = some (.ref C) ∧ H a = some (.ins C dx fs) ∧ fs.map (·.1) = fn ∧ Reps R G ds (fs.map (·.2)) ∧ G a = none ∧
      ∀ (fs' : List (Str × V)) (fn' : List Str) (ds' : List D), fs'.map (·.1) = fn' → Reps R G ds' (fs'.map (·.2)) → EnvOk R G (upd H a (.ins C dx fs')) (env.set i (.oi c fn' (ds'.map .v))) σ f ∧ Stp G H f G (upd H a (.ins C dx fs')) f := by
  unfold getI at h
  split at h
  · rename_i c' fn' fv hi
    obtain ⟨ds0, hx, he⟩ := Option.map_eq_some_iff.mp h
    cases he
    have hx := plainL_eq hx
    subst hx
    obtain ⟨s0, f1, f2, f3, h1, h2, h3, h4⟩ := e.sl.at hi
    obtain ⟨a, dx, C, fs, f', e1, e2, e3, e4, e5, e6⟩ := h3
    rw [map_some_snd] at e6
    obtain ⟨r, e7⟩ := plainL_sls e6
    subst e1 e5 e7 h2
    have ga : G a = none := e.fr a (by simp)
    have hσ : σ.set i (some (.ref a)) = σ := by
      apply List.ext_getElem?
      intro j
      by_cases hj : j = i
      · subst hj; rw [List.getElem?_set_self (List.getElem?_eq_some_iff.mp h1).1, h1]
      · rw [List.getElem?_set_ne (Ne.symm hj)]
    refine ⟨a, dx, C, fs, h1, e2, e3, e4, r, ga, fun fs' fn' ds' hf r' => ⟨⟨fun c u z => ?_, ?_, e.nd, e.fr, e.nt, tabs_upd e.tb (.ins e3)⟩, ⟨.refl G, fun c u z hc _ => ?_, fun _ _ z => .inl z, fun _ z => .inl z⟩⟩⟩
    · rw [upd_ne (ne_of_none z ga)]; exact e.sub c u z
    · have sl := h4 G (upd H a (.ins C dx fs')) (.oi c fn' (ds'.map .v)) (some (.ref a)) [a] (.refl G) (fun c hc u z => by
        have nd := e.nd
        rw [upd_ne]
        · exact z
        · intro y
          subst y
          rw [List.append_assoc] at nd
          have n1 := List.nodup_append.mp nd
          rcases List.mem_append.mp hc with k | k
          · exact n1.2.2 c k c (List.mem_cons_self ..) rfl
          · exact (List.nodup_append.mp n1.2.1).2.2 c (List.mem_cons_self ..) c k rfl) ⟨a, dx, C, fs', [], rfl, e2, upd_same, hf, rfl, by rw [map_some_snd]; exact Sls.plain r'⟩
      rw [hσ] at sl
      exact sl
    · rw [upd_ne (fun y => hc (by subst y; simp))]; exact z
  · cases h
/-- a field put -/
def putN (f : Str) (d : D) : List Str → List D → List D
  | g :: fn, x :: ds => if g = f then d :: ds else x :: putN f d fn ds
  | _, _ => [d]
def putK (f : Str) : List Str → List Str
  | [] => [f]
  | g :: fn => if g = f then g :: fn else g :: putK f fn
theorem putF_fst (f : Str) (v : V) : ∀ fs : List (Str × V), (putF f v fs).map (·.1) = putK f (fs.map (·.1))
  | [] => rfl
  | (g, x) :: r => by
    by_cases h : g = f
    · simp [putF, putK, h]
    · simp [putF, putK, h, putF_fst f v r]
theorem putF_reps {R : RC} {G : Hp} (f : Str) {d : D} {v : V} (r : Rep R G d v) : ∀ {fs : List (Str × V)} {ds : List D}, Reps R G ds (fs.map (·.2)) → Reps R G (putN f d (fs.map (·.1)) ds) ((putF f v fs).map (·.2))
  | [], [], h => .one r
  | [], x :: ds, h => by obtain ⟨_, _, h, _⟩ := h; cases h
  | (g, x) :: fs, [], h => by
    have e : ((g, x) :: fs).map (·.2) = [] := h
    cases e
  | (g, x) :: fs, y :: ds, h => by
    obtain ⟨u, w, h1, h2, h3⟩ := h
    cases h1
    by_cases hg : g = f
    · simp only [List.map_cons, putN, putF, hg, if_true]
      exact ⟨v, _, rfl, r, h3⟩
    · simp only [List.map_cons, putN, putF, hg, if_false]
      exact ⟨x, _, rfl, h2, putF_reps f r h3⟩
section
variable {X : Cx} {W : WX} {Pr : Nat → Bool} {a b : Expr} {Fa Fb : M D} {pos p p1 p2 p3 : Pos} {i : Nat} {x f : Str}
/-- x.f = e, x one's own instance -/
def fldS (cl : List Str) (i : Nat) (f : Str) (Fa : M D) : MS := bndS Fa fun d e => match getI i e with
  | some (c, fn, ds) => if c ∈ cl ∧ fn.length < 1000 then .nx (e.set i (.oi c (putK f fn) ((putN f d fn ds).map .v))) else .no
  | none => .no
theorem ds_fld {cl : List Str} (hcl : ∀ c ∈ cl, ∀ C, X.mg c = some (.ref C) → Cls X.K C ∧ NoAttr X.K C f) (hv : PE X (.Name x p) (tVar i)) (ha : DE X W a Fa) (hs : swapsWith a (some (.Attribute (.Name x p) f p2)) pos.line X.env = pure false := by rfl) :
    DS X W Pr (.Assign [.Attribute (.Name x p) f p2] a pos) (fldS cl i f Fa) :=
  PS.imp (ps_fld hv ha hs) fun D σ H h => tS_bnd (P := Rep (rc X)) h fun G1 env1 f1 d v H1 e r q => by
    cases z : getI i env1 with
    | none => rw [z] at q; exact q.elim
    | some t =>
      obtain ⟨c, fn, ds⟩ := t
      rw [z] at q
      dsimp only at q
      by_cases hc : c ∈ cl ∧ fn.length < 1000
      · rw [if_pos hc] at q
        obtain ⟨l, dx, C, fs, h1, h2, h3, h4, h5, h6, h7⟩ := inst_at e z
        subst h4
        obtain ⟨t1, t2⟩ := hcl c hc.1 C h2
        obtain ⟨e2, s2⟩ := h7 (putF f v fs) _ _ (putF_fst f v fs) (putF_reps f r h5)
        exact ⟨.ref l, h1, l, C, dx, fs, rfl, h3, t1, t2, by simpa using hc.2, q σ _ _ f1 s2 e2 (.refl σ)⟩
      · rw [if_neg hc] at q
        exact q.elim
/-- x.f, x one's own instance -/
def pkFld (cl : List Str) (i : Nat) (f : Str) : M D := fun e => match getI i e with
  | some (c, fn, ds) => if c ∈ cl then ofO (lookF fn ds f) e else .no
  | none => .no
theorem de_pkFld {cl : List Str} (hcl : ∀ c ∈ cl, ∀ C, X.mg c = some (.ref C) → Cls X.K C ∧ NoAttr X.K C f) (hv : PE X (.Name x p) (tVar i)) (hb : attributeBase (.Name x p) f X.env (eval (.Name x p) X.env) = eval (.Name x p) X.env := by rfl) :
    DE X W (.Attribute (.Name x p) f pos) (pkFld cl i f) := PE.imp (pe_fld hv hb) fun σ H Q ⟨G, env, fp, e, q⟩ => by
  unfold pkFld at q
  cases z : getI i env with
  | none => rw [z] at q; exact q.elim
  | some t =>
    obtain ⟨c, fn, ds⟩ := t
    rw [z] at q
    dsimp only at q
    by_cases hc : c ∈ cl
    · rw [if_pos hc] at q
      obtain ⟨d, hd, q2⟩ := q.fin' e
      obtain ⟨l, dx, C, fs, h1, h2, h3, h4, h5, h6, h7⟩ := inst_at e z
      subst h4
      obtain ⟨t1, t2⟩ := hcl c hc C h2
      obtain ⟨v, hv, rv⟩ := lookF_ok h5 hd
      exact ⟨.ref l, h1, l, C, dx, fs, v, rfl, h3, t1, t2, hv, q2 v rv⟩
    · rw [if_neg hc] at q
      exact q.elim
/-! ### C(..), an ordinary class -/
def shA : Arg → Arg
  | .d d => .d d
  | .io i => .io (i + 1)
theorem ArgsR.shift {R : RC} {σ : L2.St} {G : Hp} {s : Option V} : ∀ {as : List Arg} {vs : List V}, ArgsR R σ G as vs → ArgsR R (s :: σ) G (as.map shA) vs
  | [], _, h => h
  | .d d :: r, vs, h => by
    obtain ⟨v, w, h1, h2, h3⟩ := h
    exact ⟨v, w, h1, h2, h3.shift⟩
  | .io i :: r, vs, h => by
    obtain ⟨v, w, h1, h2, h3⟩ := h
    exact ⟨v, w, h1, h2, h3.shift⟩
def makeF (c : Str) (n : Nat) (S : List EV → Out EV) (dd : List D) (Fx : M (List Arg)) : M EV := bnd Fx fun as e => if as.length + dd.length + 1 = n then (match callA S (.io 0 :: (as.map shA ++ dd.map .d)) (.oi c [] [] :: e) with
  | .ok (.v .non) (ev :: e2) => .ok ev e2
  | .ex x (_ :: e2) => .ex x e2
  | _ => .no) else .no
theorem make_go {n : Nat} {S : List EV → Out EV} {dd : List D} {dvs : List V} {as : List Arg} {vs : List V} {G H : Hp} {e : List EV} {σ : L2.St} {fp : List Addr} {Q : VK} {c : Str} {C : Addr} (hC : X.mg c = some (.ref C)) (ev : EnvOk (rc X) G H e σ fp) (ar : ArgsR (rc X) σ G as vs) (hd : ∀ G, Reps (rc X) G dd dvs)
    (q : AtO (rc X) W (if as.length + dd.length + 1 = n then (match callA S (.io 0 :: (as.map shA ++ dd.map .d)) (.oi c [] [] :: e) with
      | .ok (.v .non) (ev :: e2) => .ok ev e2
      | .ex x (_ :: e2) => .ex x e2
      | _ => .no) else .no) G H fp σ Q) {l dx : Addr} (hl : H l = none) (hdx : H dx = none) (hne : dx ≠ l) :
    spD (rc X) n S (.ref l :: (vs ++ dvs)) (upd (upd H dx (.own l)) l (.ins C dx [])) (fun v H2 => v = .non ∧ Q (.ref l) H2) (WEat W σ) := by
  by_cases hn : as.length + dd.length + 1 = n
  · rw [if_pos hn] at q
    have gl : G l = none := by
      cases z : G l with
      | none => rfl
      | some u => rw [ev.sub _ _ z] at hl; cases hl
    have gdx : G dx = none := by
      cases z : G dx with
      | none => rfl
      | some u => rw [ev.sub _ _ z] at hdx; cases hdx
    have out : ∀ {b : Addr}, H b = none → b ∉ fp := fun {b} hb z => by
      obtain ⟨u, hu, _⟩ := ev.sl.there b z
      rw [hb] at hu; cases hu
    have hl2 : upd H dx (.own l) l = none := by rw [upd_ne hne.symm]; exact hl
    have e1 := ev.beside gdx (out hdx) (o := .own l) (.free hdx)
    have e2 := e1.beside gl (out hl) (o := .ins C dx []) (.free hl2)
    have e3 : EnvOk (rc X) G (upd (upd H dx (.own l)) l (.ins C dx [])) (.oi c [] [] :: e) (some (.ref l) :: σ) (l :: fp) :=
      ⟨e2.sub, ⟨some (.ref l), σ, [l], fp, rfl, rfl, ⟨l, dx, C, [], [], rfl, hC, upd_same, rfl, rfl, rfl, rfl⟩, e2.sl⟩, List.nodup_cons.mpr ⟨out hl, e2.nd⟩, fun b hb => (List.mem_cons.mp hb).elim (fun z => by rw [z]; exact gl) (e2.fr b), e2.nt, e2.tb⟩
    have s3 : Stp G H fp G (upd (upd H dx (.own l)) l (.ins C dx [])) (l :: fp) := by
      refine ⟨.refl G, fun b u z _ _ => ?_, fun b u z => .inl z, fun b hb => ?_⟩
      · rw [upd_ne (ne_of_none z hl), upd_ne (ne_of_none z hdx)]; exact z
      · rcases List.mem_cons.mp hb with z | z
        · exact .inr (z ▸ Fre.free hl)
        · exact .inl z
    have ar2 : ArgsR (rc X) (some (.ref l) :: σ) G (.io 0 :: (as.map shA ++ dd.map .d)) (.ref l :: (vs ++ dvs)) := ⟨.ref l, _, rfl, rfl, ar.shift.append (ArgsR.plain (hd G))⟩
    refine call_read (W := fun c d _ H => W c d σ H) e3 ar2 (by rw [List.length_cons, List.length_append, ← ar.length, ← (hd G).length]; exact hn) ?_
    cases z : callA S (.io 0 :: (as.map shA ++ dd.map .d)) (.oi c [] [] :: e) with
    | no => rw [z] at q; exact q.elim
    | ex y e4 =>
      rw [z] at q
      cases e4 with
      | nil => exact q.elim
      | cons ev2 e5 =>
        intro cv d G' H' f' s k xr
        obtain ⟨f5, k5, s5⟩ := k.drop1
        exact q cv d G' H' f5 ((s3.trans s).trans s5) k5 xr
    | ok r e4 =>
      rw [z] at q
      cases r with
      | v d =>
        cases d with
        | non =>
          cases e4 with
          | nil => exact q.elim
          | cons ev2 e5 =>
            intro v G' H' f' s k
            obtain ⟨s0, sr, f0, fr, k1, k2, k3, k4⟩ := k.sl
            cases k1
            obtain ⟨k6, w, kw, kr⟩ := k3
            cases kw
            refine ⟨kr, ?_⟩
            obtain ⟨f5, k5, s5⟩ := k.drop1
            exact q (.ref l) G' H' f5 ((s3.trans s).trans s5) k5
        | _ => exact q.elim
      | _ => exact q.elim
  · rw [if_neg hn] at q
    exact q.elim
section
variable {k : Nat} {fI C : Addr} {fd : FuncData} {ps : List Str} {S : List EV → Out EV} {dvs : List V} {ds : List Value} {dd : List D} {c : Str}
theorem run_makeG {pins : List (Addr × Obj)} {σ : L2.St} {H : Hp} {s : Shared} {Q : VK} {E : XK} {us : List Value} {vs : List V} (M : Mk X.K C fI) (F : FnG X.prog X.w X.K X.mg X.base k fI fd ps S) (hg : X.A.guards = some []) (hr : Room (k + 1) X.A) (hb : Binds X.K fd ps ds) (hd : Vals dvs ds)
    (hx : PassesAt (CX X.prog X.w) X σ E) (I : Inv X pins σ H s) (r : Vals vs us)
    (h : ∀ x dx, H x = none → H dx = none → dx ≠ x → spD (rc X) ps.length S (.ref x :: (vs ++ dvs)) (upd (upd H dx (.own x)) x (.ins C dx [])) (fun v H2 => v = .non ∧ Q (.ref x) H2) E) :
    wpAny (model X.prog X.w) X.A (call (.ref C) us) (EP X pins σ Q) X.xe s := by
  have sz : s.heap.objs.size ≤ s.heap.objs.size + 1 := Nat.le_succ _
  have q := h (s.heap.objs.size + 1) s.heap.objs.size (I.hok.fresh sz) (I.hok.fresh (Nat.le_refl _)) (Nat.ne_of_lt (Nat.lt_succ_self _))
  have J := Inv.made (C := C) I
  have rr : Vals (V.ref (s.heap.objs.size + 1) :: (vs ++ dvs)) (Value.ref (s.heap.objs.size + 1) :: (us ++ ds)) := .cons rfl (r.append hd)
  have ln : (Value.ref (s.heap.objs.size + 1) :: us ++ ds).length = ps.length := rr.length.symm.trans q.1
  have go := F.run _ X.stack _ _ ⟨Value.ref (s.heap.objs.size + 1) :: us, []⟩ (Value.ref (s.heap.objs.size + 1) :: (us ++ ds)) _ _ E (show (X.A.under (.builtin "type.__call__" ⟨.ref C :: us, []⟩)).guards = some [] from hg) (hr.make C us [])
    (J.env0.make C us []) (hb _ (Value.ref (s.heap.objs.size + 1) :: us) J.kIn ln) rr q
  refine wpAny_call (make_map (f := fI) I.kIn M.makes M.init (beq_iff_eq.mp M.fn) (codeAny_mono go fun res s' hq => ?_))
  cases res with
  | error er => exact hx pins _ _ er s' J hq
  | ok fl =>
    cases fl with
    | ret u =>
      obtain ⟨v, H', J2, rv, ev, q2⟩ := J.after hq
      subst ev
      exact ⟨rv, ⟨V.ref (s.heap.objs.size + 1), H', J2, rfl, q2⟩⟩
    | next => exact hq.elim
    | brk => exact hq.elim
    | cont => exact hq.elim
theorem do_make {es : List Expr} {e : Expr} {Fx : M (List Arg)} (M : Mk X.K C fI) (F : FnG X.prog X.w X.K X.mg X.base k fI fd ps S) (hgd : X.A.guards = some []) (hr : Room (k + 1) X.A) (hg : Gl X c) (hm : X.mg c = some (.ref C)) (hb : Binds X.K fd ps ds) (hd : Vals dvs ds)
    (hdd : ∀ G, Reps (rc X) G dd dvs) (hx : ∀ σ, PassesAt (CX X.prog X.w) X σ (WEat W σ)) (ha : DX X W (e :: es) Fx) (hdb : (c == ("__debug__" : Str)) = false := by decide)
    (he : starEach (e :: es) X.env = (false, eval e X.env) :: starEach es X.env := by rfl) (hpl : (backTo pos (starEach es X.env)).any (·.1) = false := by rfl) : DO X W (.Call (.Name c p) (e :: es) [] pos) (makeF c ps.length S dd Fx) := by
  constructor
  intro pins s σ H Q I h
  refine wpAny_Call_Name_kw (ld_glob I hg hm ?_ hdb)
  have h2 := tO_bind (P1 := ArgsR (rc X) σ) h fun G1 env1 f1 as vs H1 e1 p1 q1 => (fun (x dx : Addr) (h1 : H1 x = none) (h2 : H1 dx = none) (h3 : dx ≠ x) => make_go hm e1 p1 hdd q1 h1 h2 h3)
  refine PySem.W.callWith_K (h₀ := X.base) I.ok.mod.kin M.kp (thn (ha.run pos pins s σ H _ I h2) ?_) he hpl
  rintro us s1 ⟨vs, H1, I1, r, q⟩
  exact ⟨I1.kIn, run_makeG M F hgd hr hb hd (hx σ) I1 r q⟩
end
end
end DL

namespace DL
open PySem PySem.Spec PyProof.Rows L2 LamX
variable [LT]

section
variable {X : Cx} {W : WX} {Pr : Nat → Bool}
/-- x(lambda: body) -/
theorem de_heard {x a : Str} {g c P : Addr} {fd : FuncData} {pg : Arguments} {bg : List Stmt} {sg : Scope} {k : Nat} {Ng : List Str} {kd : Option Str} {hds : List ExceptHandler} {hs : List Hd} {params : Arguments} {body : Expr} {scope : Scope} {Fb : M D} {p lpos pos : Pos}
    (F : FunD X.K x x pg bg sg [] [] g fd) (hgl : Gl X x) (hm : X.mg x = some (.ref g)) (hb : L2.Binds X.K fd [a] []) (Sg : FnScope Ng [a] sg) (hNg : Ng[0]? = some a) (hva : Vis sg a) (hB : HBody a kd bg hds) (hh : ∃ h r, hds = h :: r)
    (hd : ∀ (cdv : Value) (A : Around) (outer : List Env) (s : Shared) (H : Hp) (E : XK), A.guards = some [] → Room (k + 1) (A.deeper (envOfC x sg s.heap.objs.size g cdv)) → ∃ l, HdsD (cxOf (CX X.prog X.w) X.prog X.w X.K X.mg X.base Ng x sg g cdv A outer s H E) Pr hds l hs)
    (hx : ∀ h ∈ hs, h.i = none → ∀ e y e', h.S e ≠ .ex y e')
    (TB : TabB X.base X.mg c P) (hcode : X.env.code = .ref c) (hmT : (P, X.env.qual ++ "<lambda>") ∈ LT.tf X.K) (hu : ∀ p ∈ LT.tf X.K, p.1 = P → p.2 = X.env.qual ++ "<lambda>") (hgd : X.A.guards = some []) (hr : Room (k + 2) X.A) (L : LamS X.env.scope scope) (hdef : defaultsOf params X.env = ([], []))
    (hbind : ∀ (q : Str) (cl : List (Str × Addr)) (pm cv ctv : Value), bindArgs (PySem.W.kla_fn "<lambda>" q params body scope cl pm cv ctv) ⟨[], []⟩ = pure [])
    (hbody : ∀ (A : Around) (outer : List Env) (s : Shared) (H : Hp) (E : XK) (f c' : Addr), A.guards = some [] → Room k (A.deeper (lamEnv X scope s.heap.objs.size f c')) → DE (lamCx X A outer s H E scope f c') (WofE E) body Fb)
    (hdb : (x == ("__debug__" : Str)) = false := by decide) (hda : (a == ("__debug__" : Str)) = false := by decide) (hcd : (a == ("__classdict__" : Str)) = false := by decide) :
    DE X W (.Call (.Name x p) [.Lambda params body scope lpos] [] pos) (heardM kd Ng.length hs Fb) := by
  obtain ⟨oc, od, dV, kV, doc, pm, an, cdv, ct, osl, rfl, lk, hcg, _, _⟩ := F.ex
  refine ⟨fun pins s σ H Q I h => ?_⟩
  obtain ⟨G, env, f, ev, q⟩ := h
  refine wpAny_Call_Name_kw (ld_glob I hgl hm ?_ hdb)
  refine PySem.W.callWith_K (h₀ := X.base) I.ok.mod.kin F.kp ?_ (by rfl) (by rfl)
  show wpAny _ _ (spliced ((false, eval (.Lambda params body scope lpos) X.env) :: backTo pos (starEach [] X.env))) _ _ s
  refine Calls.spliced_cons (lam_make2 I TB hcode hmT hu ev.tb hdef (L.has I.ok) fun f' c' pm' ctv H1 s' I1 eN T1 hf hfn hfr hco => ?_)
  refine Calls.spliced_nil ⟨I1.kIn, ?_⟩
  obtain ⟨ev1, st1⟩ := ev.lam eN T1
  have q1 := At.step q st1
  have code : codeAny (model X.prog X.w) X.A (.call (.ref g) ⟨[.ref f'], []⟩) (CR (CX X.prog X.w) X.stack X.prog X.w H1 s' Q (fun _ _ _ => False)) s' := by
    refine run_ofS (N := Ng) (ps := [a]) (us := [.ref f']) (vs := [.ref f']) lk hcg Sg hr I1.env0 (hb s' [.ref f'] I1.kIn rfl) (.cons rfl .nil) rfl fun hr' => ?_
    obtain ⟨l, hl⟩ := hd cdv X.A X.stack s' H1 (fun _ _ _ => False) hgd hr'
    have tk : Takes (cxOf (CX X.prog X.w) X.prog X.w X.K X.mg X.base Ng x sg g cdv X.A X.stack s' H1 (fun _ _ _ => False)) (fun _ _ _ _ => False) := takes_of rfl rfl rfl rfl
    obtain ⟨t, ht, hq⟩ := heard_body (Z := cxOf (CX X.prog X.w) X.prog X.w X.K X.mg X.base Ng x sg g cdv X.A X.stack s' H1 (fun _ _ _ => False)) (tc := fun W' σZ HZ Q' => σZ[0]? = some (some (.ref f')) ∧ HZ c' = some (CodeO c' (X.env.qual ++ "<lambda>")) ∧ tM (rc X) (fun c d _ H' => W' c d σZ H') (Rep (rc X)) Fb σ HZ Q')
      hB hh rfl rfl Sg.nd tk (fun W' pn xe p1 p2 tk' => pe_heard (tb := fun E => tM (rc X) (WofE E) (Rep (rc X)) Fb) (i := 0) I1 L hf hfn hfr (hbind _ _ _ _ _) tk' hgd hr' (fun A outer s H E hg2 hr2 => hbody A outer s H E f' c' hg2 hr2) hNg hva hda hcd) hl.hdsX
    refine ⟨t, ht, hq Q _ H1 ?_⟩
    have lenZ : (L2.start Ng [V.ref f']).length = Ng.length := by
      have z := congrArg List.length Sg.pre
      rw [List.length_take] at z
      have z : min 1 Ng.length = 1 := z
      unfold L2.start
      simp
      omega
    have z := heard_read (Z := cxOf (CX X.prog X.w) X.prog X.w X.K X.mg X.base Ng x sg g cdv X.A X.stack s' H1 (fun _ _ _ => False)) (σZ := L2.start Ng [V.ref f']) ev1 rfl hl hx (by rw [lenZ]; exact q1)
    exact ⟨rfl, hco, z⟩
  refine wpAny_call (codeAny_mono code fun r s2 hq => ?_)
  cases r with
  | error e =>
    obtain ⟨_, _, _, _, _, _, _, _, _, _, _, _, z⟩ := (show CX X.prog X.w X.stack H1 s' (fun _ _ _ => False) e s2 from hq)
    exact z.elim
  | ok fl =>
    cases fl with
    | ret u => exact I1.after hq
    | next => exact hq.elim
    | brk => exact hq.elim
    | cont => exact hq.elim
end
end DL

namespace DL
open PySem PySem.Spec PyProof.Rows L2 LamX
variable [LT]

theorem law_callG {P : Program} {w : World} {K : PySem.W.Frag} {mg mb : Str → Option Value} {k : Nat} {fa a : Addr} {cs : List (Addr × Addr)} {fd : FuncData} {x : Str} {S : List EV → Out EV} {sF : Shared} {vs : List Value} {ns : List Int}
    (KX0 : K.In sF.heap) (hns0 : sF.heap.Ns mainGlobals mg) (hb0 : sF.heap.Ns builtinsNs mb) (hbb0 : ∀ x : Str, x ≠ "__name__" → mb x = bootBuiltins x) (hlim0 : sF.heap.NoLimit) (hg0 : sF.gens = #[])
    (hT0 : ∀ p ∈ cs, sF.heap.get? p.2 = some { cls := .none, data := .fields #[] }) (nT0 : ∀ p ∈ cs, K.lookup p.2 = none) (C : ∀ p ∈ cs, PySem.W.CodeHd sF.heap p.1 p.2)
    (hbm0 : ∃ (bm0 : Addr) (ob0 : Obj), mg "__builtins__" = some (.ref bm0) ∧ bm0 ≠ builtinsNs ∧ sF.heap.get? bm0 = some ob0 ∧ ob0.cls = .type "module" ∧ ob0.dict = some builtinsNs ∧ ob0.data = .plain)
    (ha0 : sF.heap.get? a = some { cls := .type "list", data := .seq vs.toArray }) (hi0 : IntsAre vs ns) (hl0 : ns.length ≤ sizeLine) (hr0 : Room k callerA)
    (F : ∀ base : Heap, K.In base → base.Ns mainGlobals mg → (∀ p ∈ cs, TabB base mg p.1 p.2) → FnG P w K mg base k fa fd [x] S) (hbind0 : ∀ (s : Shared) (u0 : Value), BindsTo s fd ⟨[u0], []⟩ [(x, u0)])
    (hsp0 : ∀ H : Hp, (∀ p ∈ cs, H p.2 = some (.tbl #[])) → SqL K H a (ns.map V.int) → spD ⟨K, mg, LT.tf K⟩ 1 S [.ref a] H (fun v _ => v = .bl true) fun _ _ _ => False) :
    codeAny (model P w) callerA (.call (.ref fa) ⟨[.ref a], []⟩) (fun r0 s' => r0 = .ok (.ret (.bool true)) ∧ OldK sF.heap s'.heap ∧ s'.os = sF.os ∧ AllBare s'.gens) sF := by
  have rv0 := vals_ints hi0
  have lenV0 := hi0.length
  have isT0 : ∀ b0 : Addr, b0 ∈ cs.map (·.2) → sF.heap.get? b0 = some { cls := .none, data := .fields #[] } := fun b0 hb0 => by
    obtain ⟨p, hp0, e0⟩ := List.mem_map.mp hb0
    rw [← e0]
    exact hT0 p hp0
  have aT0 : a ∉ cs.map (·.2) := fun z0 => by
    have q0 := isT0 a z0
    rw [ha0] at q0
    have z' : Data.seq vs.toArray _ = Data.fields #[] := congrArg Obj.data (Option.some.inj q0)
    cases z'
  have memT0 : ∀ p ∈ cs, p.2 ∈ cs.map (·.2) := fun p hp0 => List.mem_map.mpr ⟨p, hp0, rfl⟩
  have core0 : ∀ H : Hp, (∀ p ∈ cs, H p.2 = some (.tbl #[])) → (∀ b0, H b0 = none ∨ b0 ∈ cs.map (·.2) ∨ ∃ o0 xs, H b0 = some (.frz o0 (.lst xs))) → SqL K H a (ns.map V.int) → HOk P w H sF.heap → (∀ b0, H b0 ≠ none → b0 = a ∨ b0 ∈ cs.map (·.2)) → (H a ≠ none → K.lookup a = none) →
      codeAny (model P w) callerA (.call (.ref fa) ⟨[.ref a], []⟩) (fun r0 s' => r0 = .ok (.ret (.bool true)) ∧ OldK sF.heap s'.heap ∧ s'.os = sF.os ∧ AllBare s'.gens) sF := by
    intro H hH0 hO0 hS0 hok0 hA0 hK0
    have base_of0 : ∀ {b0 : Addr} {o0 : Obj}, sF.heap.get? b0 = some o0 → H b0 = none → (hidT sF.heap H).get? b0 = some o0 := fun e0 n => hidT_get e0 n
    have noD0 : ∀ {b0 : Addr} {o0 : Obj}, sF.heap.get? b0 = some o0 → (∀ vs n, o0.data ≠ .seq vs n) → o0.data ≠ .fields #[] → H b0 = none := fun {b0 o0} e0 h10 h20 => by
      cases q0 : H b0 with
      | none => rfl
      | some u0 =>
        rcases hA0 b0 (by rw [q0]; simp) with e'0 | e'0
        · rw [e'0, ha0] at e0
          cases e0
          exact (h10 _ _ rfl).elim
        · rw [isT0 b0 e'0] at e0
          cases e0
          exact (h20 rfl).elim
    have noA0 : ∀ {b0 : Addr} {o0 : Obj} {es : Array DictEntry} {ep0 : Nat}, sF.heap.get? b0 = some o0 → o0.data = .dict es ep0 → H b0 = none := fun {b0 o0 es ep0} e0 d => by
      refine noD0 e0 (fun vs n z0 => ?_) fun z0 => ?_
      · rw [d] at z0
        cases z0
      · rw [d] at z0
        cases z0
    have nsK0 : ∀ {b0 : Addr} {m : Str → Option Value}, sF.heap.Ns b0 m → (hidT sF.heap H).Ns b0 m := fun {b0 m} ⟨o0, es, ep0, e0, d, r0⟩ => ⟨o0, es, ep0, base_of0 e0 (noA0 e0 d), d, r0⟩
    have hKb0 : K.In (hidT sF.heap H) := fun b0 o0 e0 => base_of0 (KX0 b0 o0 e0) (by
      cases q0 : H b0 with
      | none => rfl
      | some u0 =>
        rcases hA0 b0 (by rw [q0]; simp) with e'0 | e'0
        · rw [e'0] at e0 q0
          rw [hK0 (by rw [q0]; simp)] at e0
          cases e0
        · obtain ⟨p, hp0, ep0⟩ := List.mem_map.mp e'0
          rw [← ep0, nT0 p hp0] at e0
          cases e0)
    have hM0 : L2.Mod K mg (hidT sF.heap H) := ⟨hKb0, nsK0 hns0, ⟨mb, nsK0 hb0, hbb0⟩, let ⟨mc, h10, h20⟩ := hlim0; ⟨mc, nsK0 h10, h20⟩⟩
    have TB0 : ∀ p ∈ cs, TabB (hidT sF.heap H) mg p.1 p.2 := fun p hp0 => by
      have hTp0 := hT0 p hp0
      refine ⟨?_, ?_, fun z0 => ?_⟩
      · obtain ⟨o0, us, file, tf, flags, tg, inF, text, tt, e1, r1, r2, r3, r4, r5, r6, r7, r8, hne⟩ := C p hp0
        refine ⟨o0, us, file, tf, flags, tg, inF, text, tt, base_of0 e1 (noD0 e1 (fun vs n z0 => ?_) fun z0 => ?_), r1, r2, r3, r4, r5, r6, r7, r8, hne⟩
        · rw [r2] at z0
          cases z0
        · rw [r2] at z0
          cases z0
          simp at r3
      · obtain ⟨bm0, ob0, b1, b2, b3, b4, b5, b6⟩ := hbm0
        have nG0 : bm0 ≠ mainGlobals := fun q0 => by
          obtain ⟨o0, es, ep0, e0, hd, _⟩ := hns0
          rw [q0, e0] at b3
          cases b3
          rw [hd] at b6
          cases b6
        have nP0 : bm0 ≠ p.2 := fun q0 => by
          rw [q0, hTp0] at b3
          cases b3
          cases b6
        refine ⟨bm0, ob0, b1, b2, nG0, nP0, base_of0 b3 (noD0 b3 (fun vs n z0 => ?_) fun z0 => ?_), b4, b5, b6⟩
        · rw [b6] at z0
          cases z0
        · rw [b6] at z0
          cases z0
      · obtain ⟨o0, es, ep0, e0, hd, _⟩ := hns0
        rw [z0, hTp0] at e0
        cases e0
        cases hd
    have e00 : Env0 P w K mg (hidT sF.heap H) callerA [] sF H := ⟨rfl, hM0, fun b0 o0 e0 => of_hidT e0, Nat.le_of_eq (hidT_size _ _), trivial, fun b0 hb0 => absurd (show b0 ∈ ([] : List Addr) from hb0) (by simp), hok0, .of_eq hg0⟩
    refine codeAny_mono ((F _ hKb0 (nsK0 hns0) TB0).run callerA [] sF H ⟨[.ref a], []⟩ [.ref a] [.ref a] _ _ rfl hr0 e00 (hbind0 sF (.ref a)) (.cons rfl .nil) (hsp0 H hH0 hS0)) fun r0 s' h => ?_
    cases r0 with
    | error e0 =>
      obtain ⟨_, _, _, _, _, _, _, _, _, _, _, _, y⟩ := (show CX P w [] H sF (fun _ _ _ => False) e0 s' from h)
      exact y.elim
    | ok fl =>
      cases fl with
      | next => exact False.elim h
      | brk => exact False.elim h
      | cont => exact False.elim h
      | ret u0 =>
        obtain ⟨v, H', os, bare, un0, hok', r', q0⟩ := h
        have q' : v = .bl true := q0
        subst q'
        obtain rfl : u0 = Value.bool true := r'
        have key0 : ∀ b0 o0, b0 ∉ cs.map (·.2) → sF.heap.get? b0 = some o0 → s'.heap.get? b0 = some o0 := fun b0 o0 nb e0 => by
          cases q0 : H b0 with
          | none => exact un0.keep b0 o0 e0 q0 (by intro z0; exact absurd (show b0 ∈ ([] : List Addr) from z0) (by simp)) (by simp)
          | some u0 =>
            rcases hO0 b0 with z0 | z0 | ⟨ob0, xs, z0⟩
            · rw [q0] at z0; cases z0
            · exact absurd z0 nb
            · have z2 := un0.frzs b0 ob0 _ z0
              obtain ⟨e1, _⟩ := hok0 b0 _ z0
              obtain ⟨e2, _⟩ := hok' b0 _ z2
              rw [e0] at e1; cases e1
              exact e2
        have grown0 : ∀ p ∈ cs, ∃ more0 : Array Value, s'.heap.get? p.2 = some { cls := .none, data := .fields more0 } := fun p hp0 => by
          obtain ⟨more0, z0⟩ := un0.tbls p.2 #[] (hH0 p hp0)
          exact ⟨_, hok' p.2 _ z0⟩
        refine ⟨rfl, ⟨fun b0 o0 e0 => ?_, fun b0 o0 e0 => ?_⟩, os, bare⟩
        · by_cases hb0 : b0 ∈ cs.map (·.2)
          · obtain ⟨p, hp0, ep0⟩ := List.mem_map.mp hb0
            obtain ⟨more0, hm0⟩ := grown0 p hp0
            rw [← ep0] at e0 ⊢
            rw [hT0 p hp0] at e0
            cases e0
            exact .inr (.inl ⟨((C p hp0).tab (hT0 p hp0)).isCodeTable, rfl, #[], more0, rfl, by rw [Array.empty_append]; exact hm0⟩)
          · exact .inl (key0 b0 o0 hb0 e0)
        · by_cases hb0 : b0 ∈ cs.map (·.2)
          · obtain ⟨p, hp0, ep0⟩ := List.mem_map.mp hb0
            obtain ⟨more0, hm0⟩ := grown0 p hp0
            rw [← ep0]
            exact ⟨_, hm0⟩
          · exact ⟨o0, key0 b0 o0 hb0 e0⟩
  cases hk0 : K.lookup a with
  | some o0 =>
    have e0 := KX0 a o0 hk0
    rw [ha0] at e0
    cases e0
    refine core0 (fun b0 => if b0 ∈ cs.map (·.2) then some (.tbl #[]) else none) (fun p hp0 => if_pos (memT0 p hp0)) (fun b0 => ?_) (.inr ⟨_, vs.toArray, _, hk0, rfl, rfl, rfl, by rw [List.size_toArray, lenV0]; exact hl0, by simpa using rv0⟩) (fun b0 u0 z0 => ?_) (fun b0 z0 => ?_) fun z0 => absurd (show (if a ∈ cs.map (·.2) then some (HO.tbl #[]) else none) = none from if_neg aT0) z0
    · by_cases hb0 : b0 ∈ cs.map (·.2)
      · exact .inr (.inl hb0)
      · exact .inl (if_neg hb0)
    · by_cases hb0 : b0 ∈ cs.map (·.2)
      · have z' := (if_pos hb0).symm.trans z0
        cases z'
        exact isT0 b0 hb0
      · have z' := (if_neg hb0).symm.trans z0
        cases z'
    · by_cases hb0 : b0 ∈ cs.map (·.2)
      · exact .inr hb0
      · exact absurd (if_neg hb0) z0
  | none =>
    refine core0 (fun b0 => if b0 = a then some (.frz { cls := .type "list", data := .seq vs.toArray } (.lst (ns.map V.int))) else if b0 ∈ cs.map (·.2) then some (.tbl #[]) else none) (fun p hp0 => (if_neg (show ¬ p.2 = a from fun z0 => aT0 (by rw [← z0]; exact memT0 p hp0))).trans (if_pos (memT0 p hp0))) (fun b0 => ?_)
      (.inl (.inr ⟨{ cls := .type "list", data := .seq vs.toArray }, if_pos rfl⟩)) (fun b0 u0 z0 => ?_) (fun b0 z0 => ?_) fun _ => hk0
    · by_cases hb0 : b0 = a
      · exact .inr (.inr ⟨_, _, if_pos hb0⟩)
      · by_cases hb2 : b0 ∈ cs.map (·.2)
        · exact .inr (.inl hb2)
        · exact .inl ((if_neg hb0).trans (if_neg hb2))
    · by_cases hb0 : b0 = a
      · have z' := (if_pos hb0).symm.trans z0
        cases z'
        rw [hb0]
        exact ⟨ha0, by rw [List.length_map]; exact hl0, vs, _, rv0, ha0⟩
      · have z1 := (if_neg hb0).symm.trans z0
        by_cases hb2 : b0 ∈ cs.map (·.2)
        · have zz := (if_pos hb2).symm.trans z1
          cases zz
          exact isT0 b0 hb2
        · have zz := (if_neg hb2).symm.trans z1
          cases zz
    · by_cases hb0 : b0 = a
      · exact .inl hb0
      · by_cases hb2 : b0 ∈ cs.map (·.2)
        · exact .inr hb2
        · exact absurd ((if_neg hb0).trans (if_neg hb2)) z0
/-- the script in a slot -/
theorem scr_env {K : PySem.W.Frag} {mg : Str → Option Value} {T : List (Addr × Str)} {H : Hp} {a : Addr} {ns : List Int} (h : SqL K H a (ns.map V.int)) (t : Tabs T H) : ∃ G, EnvOk ⟨K, mg, T⟩ G H [.v (.scr ns)] [some (.ref a)] [] := by
  have one : ∀ o, H a = some o → NT o → SqL K (fun b => if b = a then some o else none) a (ns.map V.int) → ∃ G, EnvOk ⟨K, mg, T⟩ G H [.v (.scr ns)] [some (.ref a)] [] := fun o ho nt hs => by
    refine ⟨fun b => if b = a then some o else none, fun b u e => ?_, ⟨_, _, [], [], rfl, rfl, ⟨rfl, _, rfl, a, rfl, hs⟩, rfl, rfl⟩, List.nodup_nil, fun b hb => (by cases hb), fun b u e => ?_, t⟩
    · by_cases hb : b = a
      · rw [hb] at e ⊢
        rw [if_pos rfl] at e
        rw [ho]
        exact e
      · rw [if_neg hb] at e
        cases e
    · by_cases hb : b = a
      · rw [if_pos hb] at e
        cases e
        exact nt
      · rw [if_neg hb] at e
        cases e
  rcases h with (h | ⟨o, h⟩) | h
  · exact one _ h (fun _ z => by cases z) (.inl (.inl (if_pos rfl)))
  · exact one _ h (fun _ z => by cases z) (.inl (.inr ⟨o, if_pos rfl⟩))
  · exact ⟨fun _ => none, fun b u e => (by cases e), ⟨_, _, [], [], rfl, rfl, ⟨rfl, _, rfl, a, rfl, .inr h⟩, rfl, rfl⟩, List.nodup_nil, fun b hb => (by cases hb), fun b u e => (by cases e), t⟩
/-- what is to be shown of the law: the answer's function says True -/
def Says (S : List EV → Out EV) (n : Nat) : Prop := ∀ ns : List Int, ns.length ≤ n → (∀ z ∈ ns, Builtin.Int.intBits z ≤ 1048576) → ∃ os, S [.v (.scr ns)] = .ok (.v (.bl true)) os
theorem says_sp {K : PySem.W.Frag} {mg : Str → Option Value} {S : List EV → Out EV} {H : Hp} {a : Addr} {ns : List Int} {os : List EV} (h : S [.v (.scr ns)] = .ok (.v (.bl true)) os) (hs : SqL K H a (ns.map V.int)) (t : Tabs (LT.tf K) H) : spD ⟨K, mg, LT.tf K⟩ 1 S [.ref a] H (fun v _ => v = .bl true) fun _ _ _ => False := by
  obtain ⟨G, e⟩ := scr_env (mg := mg) hs t
  refine ⟨rfl, G, [.v (.scr ns)], [], e, ?_⟩
  rw [h]
  intro v G' H' f' s k
  obtain ⟨s0, sr, f0, fr, h1, h2, h3, h4⟩ := k.sl
  cases h1
  obtain ⟨_, w, hw, hr⟩ := h3
  cases hw
  exact hr
def LawAtG (l : PySem.W.OpenLaw) (w : World) (K : PySem.W.Frag) (k n : Nat) (x : Str) (mg : Str → Option Value) (fa : Addr) (h : Heap) : Prop :=
  ∃ (fd : FuncData) (cs : List (Addr × Addr)) (S : List EV → Out EV), (∀ p ∈ cs, h.get? p.2 = some { cls := .none, data := .fields #[] }) ∧ (∀ p ∈ cs, K.lookup p.2 = none) ∧ (∀ p ∈ cs, PySem.W.CodeHd h p.1 p.2) ∧ (∀ p ∈ LT.tf K, ∃ q ∈ cs, q.2 = p.1) ∧
    (∀ (s : Shared) (u : Value), BindsTo s fd ⟨[u], []⟩ [(x, u)]) ∧ Says S n ∧ ∀ base : Heap, K.In base → base.Ns mainGlobals mg → (∀ p ∈ cs, TabB base mg p.1 p.2) → FnG l.prog w K mg base k fa fd [x] S
end DL

namespace DL
open PySem PySem.Spec PyProof.Rows L2 LamX

/-! ### own exception classes, read off the written part -/
def tlB (bmB : List Value) : List Value → Bool
  | .ref C :: l => decide (Value.ref C :: l = bmB) || tlB bmB l
  | l => decide (l = bmB)
theorem tlB_ok {bmB : List Value} : ∀ l, tlB bmB l = true → Tl bmB l
  | [], h => by rw [show [] = bmB from of_decide_eq_true h]; exact .base
  | .ref C :: l, h => by
    rcases Bool.or_eq_true_iff.mp (show (decide (Value.ref C :: l = bmB) || tlB bmB l) = true from h) with z | z
    · rw [of_decide_eq_true z]; exact .base
    · exact .own (tlB_ok l z)
  | .none :: l, h => by rw [show Value.none :: l = bmB from of_decide_eq_true h]; exact .base
  | .ellipsis :: l, h => by rw [show Value.ellipsis :: l = bmB from of_decide_eq_true h]; exact .base
  | .notImplemented :: l, h => by rw [show Value.notImplemented :: l = bmB from of_decide_eq_true h]; exact .base
  | .bool b :: l, h => by rw [show Value.bool b :: l = bmB from of_decide_eq_true h]; exact .base
  | .int b t :: l, h => by rw [show Value.int b t :: l = bmB from of_decide_eq_true h]; exact .base
  | .float b t :: l, h => by rw [show Value.float b t :: l = bmB from of_decide_eq_true h]; exact .base
  | .str b t :: l, h => by rw [show Value.str b t :: l = bmB from of_decide_eq_true h]; exact .base
  | .bytes b t :: l, h => by rw [show Value.bytes b t :: l = bmB from of_decide_eq_true h]; exact .base
  | .type b :: l, h => by rw [show Value.type b :: l = bmB from of_decide_eq_true h]; exact .base
  | .builtin b :: l, h => by rw [show Value.builtin b :: l = bmB from of_decide_eq_true h]; exact .base
/-- one own exception class: its name, its field, over KeyError or ValueError, its __init__ as it is written -/
structure XD where
  c : Str
  f : Str
  ke : Bool
  st : Stmt
abbrev XO : Type := Option (Str × Str × Arguments × FuncBody × Scope × Addr × List Str × Addr × Value)
def xObs (K : PySem.W.Frag) (x : XD) : XO := match K.lookup (He.fAd K (x.c, some "__init__")) with
  | some ⟨_, _, .func fd, _⟩ => some (fd.name, fd.qualname, fd.params, fd.body, fd.scope, fd.globals, fd.closure.map (·.1), fd.builtins, fd.defaults)
  | _ => none
def XD.val (x : XD) : XO := some ("__init__", x.c ++ ".__init__", defArgs x.st, .stmts (defBody x.st), defScope x.st, mainGlobals, ["__class__"], builtinsNs, .none)
def XD.bm (x : XD) : List Value := if x.ke then keBm else veBm
def XD.B (x : XD) : String := if x.ke then "KeyError" else "ValueError"
def XD.ini (x : XD) : String := if x.ke then "KeyError.__init__" else "ValueError.__init__"
def XD.Bn (x : XD) : String := if x.ke then "LookupError" else "ValueError"
def XD.nid (x : XD) : String := if x.ke then "LookupError.__new__" else "ValueError.__new__"
theorem XD.bx (x : XD) : BaseX x.B x.ini x.Bn x.nid x.bm := by
  obtain ⟨c, f, ke, st⟩ := x
  cases ke
  · exact bx_ve
  · exact bx_ke
def clsB (K : PySem.W.Frag) (C : Addr) (x : XD) : Bool := match K.lookup C with
  | some ⟨.type "type", _, .cls cd, sl⟩ => (match cd.mro, sl.toList with
    | .ref C' :: bm, [_, _, _, _, some (.builtin n), _] => decide (C' = C) && (decide (n = x.nid) && (!cd.hasDel && (cd.hasDict && tlB x.bm bm)))
    | _, _ => false)
  | _ => false
theorem clsB_ok {K : PySem.W.Frag} {C : Addr} {x : XD} (h : clsB K C x = true) : ∃ nm qn N bs bm sn sub ab col dd k0 k1 k2 k3 k5, K.lookup C = some (excClassObj nm qn C N bs bm true sn sub ab col dd k0 k1 k2 k3 k5 x.nid) ∧ Tl x.bm bm := by
  unfold clsB at h
  split at h
  · rename_i dd cd sl ho
    split at h
    · rename_i C' bm k0 k1 k2 k3 n k5 hm hs
      obtain ⟨h1, h⟩ := Bool.and_eq_true_iff.mp h
      obtain ⟨h2, h⟩ := Bool.and_eq_true_iff.mp h
      obtain ⟨h3, h⟩ := Bool.and_eq_true_iff.mp h
      obtain ⟨h4, h5⟩ := Bool.and_eq_true_iff.mp h
      have g1 := of_decide_eq_true h1
      have g2 := of_decide_eq_true h2
      have g3 : cd.hasDel = false := by simpa using h3
      clear h1 h2 h3 h
      subst g1 g2
      obtain ⟨nm, bs, mro, ns, qn, hd, sn, sub, ab, col, del⟩ := cd
      dsimp only at hm g3 h4
      subst hm g3 h4
      have hsl : sl = #[k0, k1, k2, k3, some (.builtin x.nid), k5] := by
        obtain ⟨l⟩ := sl
        simp only at hs
        rw [hs]
      subst hsl
      exact ⟨nm, qn, ns, bs, bm, sn, sub, ab, col, dd, k0, k1, k2, k3, k5, ho, tlB_ok _ h5⟩
    · cases h
  · cases h
def codeB (K : PySem.W.Frag) (file : Str) (cd : Value) (qual : Str) : Bool := match cd with
  | .ref c => PySem.W.codeIn K cd qual && (match K.lookup c with
    | some ⟨_, _, .fields vs, _⟩ => (match (vs[2]? : Option Value) with
      | some (.str g _) => file == g
      | _ => false)
    | _ => false)
  | _ => false
theorem codeB_ok {K : PySem.W.Frag} {file : Str} {cd : Value} {qual : Str} (h : codeB K file cd qual = true) : ∃ c ccl cdd vs ccs g t, cd = .ref c ∧ PySem.W.codeIn K (.ref c) qual = true ∧ K.lookup c = some ⟨ccl, cdd, .fields vs, ccs⟩ ∧ vs[2]? = some (.str g t) ∧ (file == g) = true := by
  unfold codeB at h
  split at h
  · rename_i c
    obtain ⟨h1, h2⟩ := Bool.and_eq_true_iff.mp h
    split at h2
    · rename_i a b vs sl ho
      split at h2
      · rename_i g t hv
        exact ⟨c, a, b, vs, sl, g, t, rfl, h1, ho, hv, h2⟩
      · cases h2
    · cases h2
  · cases h
def cellB (K : PySem.W.Frag) (C : Addr) : List (Str × Addr) → Bool
  | [(_, cc)] => (match K.lookup cc with
    | some ⟨_, _, .cell (some (.ref D)), _⟩ => decide (D = C)
    | _ => false)
  | _ => false
def xfB (K : PySem.W.Frag) (file : Str) (C : Addr) (x : XD) : Bool := match K.lookup (PySem.W.findIn K (.ref C) "__init__" |>.bind id |>.elim 0 fun v => match v with | .ref a => a | _ => 0) with
  | some ⟨_, _, .func fd, _⟩ => codeB K file fd.code (x.c ++ ".__init__") && cellB K C fd.closure
  | _ => false
def XD.ok (prog : Program) (K : PySem.W.Frag) (x : XD) : Bool :=
  clsB K (He.ga K x.c) x && (decide (PySem.W.findIn K (.ref (He.ga K x.c)) "__setattr__" = some (some (.builtin "object.__setattr__"))) && (decide (PySem.W.findIn K (.ref (He.ga K x.c)) x.f = some none) &&
  (decide (PySem.W.subIn K (.ref (He.ga K x.c)) (.type "BaseException") = some true) && (decide (PySem.W.subIn K (.ref (He.ga K x.c)) (.type x.B) = some true) && (decide (PySem.W.typeIn K (.ref (He.ga K x.c)) = some (.type "type")) &&
  (PySem.W.keepIn K (.ref (He.ga K x.c)) && (decide (PySem.W.mroIn K (He.ga K x.c) (.ref (He.ga K x.c)) = some true) && (decide (PySem.W.ks_superIn K (He.ga K x.c) (He.ga K x.c) "__init__" = some (some (.builtin x.ini))) &&
  (decide (PySem.W.nsIn K cStatics "thirdparty.any" = some none) && (decide (PySem.W.findIn K (.ref (He.ga K x.c)) "__init__" = some (some (.ref (He.fAd K (x.c, some "__init__"))))) && (decide (PySem.W.typeIn K (.ref (He.fAd K (x.c, some "__init__"))) = some (.type "function")) &&
  xfB K prog.main.file (He.ga K x.c) x)))))))))))
/-- what the text of an exception class must be: closed by rfl for each -/
structure XD.Shape (prog : Program) (x : XD) : Prop where
  top : (prog.main.scope.names.lookup ("super" : Str)).isSome = false
  sh : ∃ (n0 n1 m : Str) (j : Nat) (p0 p1 p2 p3 p4 p5 p6 p7 p8 p9 : Pos), defBody x.st = [.Expr (.Call (.Attribute (.Call (.Name "super" p0) [] [] p1) "__init__" p2) [.Constant (.str m) j p3] [] p4) p5, .Assign [.Attribute (.Name n0 p6) x.f p7] (.Name n1 p8) p9] ∧
    (∃ ar, ((defArgs x.st).posonlyargs ++ (defArgs x.st).args).head? = some ar ∧ ar.arg = n0) ∧
    (∀ (s : Shared) (u v kV doc pm : Value) (an : Option Addr) (cda : Addr) (ct : Value) (cc : Addr), BindsTo s (PySem.W.ksFn "__init__" (x.c ++ ".__init__") (defArgs x.st) (defBody x.st) (defScope x.st) .none kV doc pm an (.ref cda) ct cc) ⟨[u, v], []⟩ [(n0, u), (n1, v)]) ∧
    (∀ (s : Shared) (u v kV doc pm : Value) (an : Option Addr) (cda : Addr) (ct : Value) (cc : Addr), BindsTo s (PySem.W.ksFn "__init__" (x.c ++ ".__init__") (defArgs x.st) (defBody x.st) (defScope x.st) .none kV doc pm an (.ref cda) ct cc) ⟨[u], [(n1, v)]⟩ [(n0, u), (n1, v)]) ∧ n1 = x.f ∧
    (defScope x.st).names.lookup ("super" : Str) = some .globalImplicit ∧ (defScope x.st).names.lookup ("__class__" : Str) = some .free ∧ (defScope x.st).names.lookup n0 = some .local ∧ (defScope x.st).names.lookup n1 = some .local ∧
    (p2.endLine == p4.line) = true ∧ (n0 == n1) = false ∧ (n0 == ("__debug__" : Str)) = false ∧ (n1 == ("__debug__" : Str)) = false ∧ (∀ y ∈ (defScope x.st).names, y.2 ≠ .cell) ∧ (defScope x.st).isCoroutine = false ∧ (defScope x.st).isGenerator = false ∧ (defScope x.st).kind = .function
theorem XD.exI {prog : Program} {K : PySem.W.Frag} {x : XD} (sh : x.Shape prog) (e : xObs K x = x.val) (h : x.ok prog K = true) : ExI prog K (He.ga K x.c) x.f := by
  obtain ⟨a1, h⟩ := Bool.and_eq_true_iff.mp (show (_ && _) = true from h)
  obtain ⟨a2, h⟩ := Bool.and_eq_true_iff.mp h
  obtain ⟨a3, h⟩ := Bool.and_eq_true_iff.mp h
  obtain ⟨a4, h⟩ := Bool.and_eq_true_iff.mp h
  obtain ⟨a5, h⟩ := Bool.and_eq_true_iff.mp h
  obtain ⟨a6, h⟩ := Bool.and_eq_true_iff.mp h
  obtain ⟨a7, h⟩ := Bool.and_eq_true_iff.mp h
  obtain ⟨a8, h⟩ := Bool.and_eq_true_iff.mp h
  obtain ⟨a9, h⟩ := Bool.and_eq_true_iff.mp h
  obtain ⟨b1, h⟩ := Bool.and_eq_true_iff.mp h
  obtain ⟨b2, h⟩ := Bool.and_eq_true_iff.mp h
  obtain ⟨b3, b4⟩ := Bool.and_eq_true_iff.mp h
  have b2 := of_decide_eq_true b2
  refine ⟨x.B, x.ini, x.Bn, x.nid, x.bm, He.fAd K (x.c, some "__init__"), ⟨x.bx, clsB_ok a1, of_decide_eq_true a2, of_decide_eq_true a3, of_decide_eq_true a4, of_decide_eq_true a5, of_decide_eq_true a6, a7, of_decide_eq_true a8, of_decide_eq_true a9, of_decide_eq_true b1, b2, of_decide_eq_true b3, sh.top, ?_⟩⟩
  unfold xfB at b4
  rw [b2] at b4
  simp only [Option.bind_some, id, Option.elim] at b4
  unfold xObs at e
  cases q : K.lookup (He.fAd K (x.c, some "__init__")) with
  | none => rw [q] at b4; cases b4
  | some o =>
    obtain ⟨oc, od, dt, osl⟩ := o
    rw [q] at b4 e
    cases dt with
    | func fd =>
      obtain ⟨n1, n2, n3, n4, n5, n6, n7, n8, n9, n10, n11, n12, n13, n14, n15⟩ := fd
      have e2 : (some (n1, n2, n3, n4, n5, n6, n7.map (·.1), n15, n8) : XO) = some (("__init__" : Str), x.c ++ (".__init__" : Str), defArgs x.st, FuncBody.stmts (defBody x.st), defScope x.st, mainGlobals, [("__class__" : Str)], builtinsNs, Value.none) := e
      simp only [Option.some.injEq, Prod.mk.injEq] at e2
      obtain ⟨h1, h2, h3, h4, h5, h6, h7, h8, h9⟩ := e2
      subst h1 h2 h3 h4 h5 h6 h8 h9
      dsimp only at b4
      obtain ⟨c1, c2⟩ := Bool.and_eq_true_iff.mp b4
      obtain ⟨c, ccl, cdd, vs, ccs, g, t, k1, k2, k3, k4, k5⟩ := codeB_ok c1
      subst k1
      cases n7 with
      | nil => exact absurd (congrArg List.length h7) (by simp)
      | cons pr rest =>
        cases rest with
        | cons y1 y2 => exact absurd (congrArg List.length h7) (by simp)
        | nil =>
          obtain ⟨nm, cc⟩ := pr
          have h7 : nm = "__class__" := by
            have z := List.cons.inj h7
            exact z.1
          subst h7
          have c3 : (match K.lookup cc with
            | some ⟨_, _, .cell (some (.ref D)), _⟩ => decide (D = He.ga K x.c)
            | _ => false) = true := c2
          split at c3
          · rename_i u1 u2 D u3 hcell
            have hD := of_decide_eq_true c3
            subst hD
            obtain ⟨m0, m1, m, j, p0, p1, p2, p3, p4, p5, p6, p7, p8, p9, s1, s2, s3, s3k, s3n, s4⟩ := sh.sh
            exact ⟨oc, ccl, u1, od, cdd, u2, osl, ccs, u3, _, _, m0, m1, _, _, _, .none, n9, n10, n11, n12, n14, cc, c, vs, g, t, m, j, p0, p1, p2, p3, p4, p5, p6, p7, p8, p9, rfl, k2, k3, k4, k5, hcell, s2, fun s u v => s3 s u v _ _ _ _ _ _ _, fun s u v => s3k s u v _ _ _ _ _ _ _, s3n, s1, s4⟩
          · cases c3
    | _ => cases b4
end DL

namespace DL
open PySem PySem.Spec PyProof.Rows L2 LamX

/-! ### the Hook of a law -/
/-- further facts of the written part -/
inductive Ck where
  | exc (c : Str) | kit (c c' : Str) (b : Bool) | kitT (c : Str) (n : String) (b : Bool) | xfc (c : Str) | iso (c : Str) | eqi (c : Str) | etup (f : Str × Option Str) (i : Nat)
def Ck.ok (K : PySem.W.Frag) : Ck → Bool
  | .exc c => decide (PySem.W.findIn K (.ref (He.ga K c)) "__getattribute__" = some (some (.builtin "BaseException.__getattribute__"))) && (decide (PySem.W.findIn K (.ref (He.ga K c)) "__getattr__" = some none) && (decide (PySem.W.subIn K (.ref (He.ga K c)) (.type "BaseException") = some true) && (PySem.W.hasDictIn K (He.ga K c) &&
      (decide (PySem.W.findIn K (.ref (He.ga K c)) "__class__" = some (some (.builtin "object.__class__"))) && (decide (PySem.W.specialIn K (.builtin "object.__class__") "__get__" = some (some (.builtin "getset_descriptor.__get__"))) && (decide (PySem.W.takesIn K (.builtin "object.__class__") = some true) && decide (PySem.W.mroIn K (He.ga K c) (.type "object") = some true)))))))
  | .kit c c' b => decide (PySem.W.kitOne K (.ref (He.ga K c)) (.ref (He.ga K c')) = some b)
  | .kitT c n b => decide (PySem.W.kitOne K (.ref (He.ga K c)) (.type n) = some b)
  | .xfc c => L2.xfB K (He.ga K c)
  | .iso c => decide (PySem.W.findIn K (.ref (He.ga K c)) "__class__" = some (some (.builtin "object.__class__"))) && (decide (PySem.W.specialIn K (.builtin "object.__class__") "__get__" = some (some (.builtin "getset_descriptor.__get__"))) && (decide (PySem.W.takesIn K (.builtin "object.__class__") = some true) && decide (PySem.W.mroIn K (He.ga K c) (.type "object") = some true)))
  | .eqi c => decide (PySem.W.findIn K (.ref (He.ga K c)) "__ne__" = some (some (.builtin "object.__ne__"))) && decide (PySem.W.subIn K (.ref (He.ga K c)) (.type "object") = some true)
  | .etup f i => (match K.lookup (He.dflAt f i K) with
    | some ⟨.type c, none, .seq its _, _⟩ => decide (c = "tuple") && decide (its.size = 0)
    | _ => false)
theorem Ck.excC {K : PySem.W.Frag} {c : Str} (h : (Ck.exc c).ok K = true) : ExcC K (He.ga K c) := by
  obtain ⟨h1, h⟩ := Bool.and_eq_true_iff.mp (show (_ && _) = true from h)
  obtain ⟨h2, h⟩ := Bool.and_eq_true_iff.mp h
  obtain ⟨h3, h⟩ := Bool.and_eq_true_iff.mp h
  obtain ⟨h4, h⟩ := Bool.and_eq_true_iff.mp h
  obtain ⟨h5, h⟩ := Bool.and_eq_true_iff.mp h
  obtain ⟨h6, h⟩ := Bool.and_eq_true_iff.mp h
  obtain ⟨h7, h8⟩ := Bool.and_eq_true_iff.mp h
  exact ⟨of_decide_eq_true h1, of_decide_eq_true h2, of_decide_eq_true h3, h4, of_decide_eq_true h5, of_decide_eq_true h6, of_decide_eq_true h7, of_decide_eq_true h8⟩
structure HK where
  prog : Program
  fa : List He.Fa
  fn : List He.DefD
  xs : List XD
  ck : List Ck
  tf : List (He.Defn × Str)
abbrev AlZ : Type := He.AlD × List XO × Bool
def asZ (g : Addr → Option Obj) (n : Nat) : List Addr := cStatics :: He.asD g n
def frZ (g : Addr → Option Obj) (n : Nat) : PySem.W.Frag := He.frT g (asZ g n)
def tabZ (c : HK) (g : Addr → Option Obj) (K : PySem.W.Frag) : Bool := He.tabsB g (c.tf.map (·.1)) K && decide ((c.tf.map fun p => (He.cT K p.1).2).Nodup)
def obsZ (c : HK) (n : Nat) (g : Addr → Option Obj) : AlZ := (He.obsD c.fa c.fn (frZ g n), c.xs.map (xObs (frZ g n)), (c.xs.all fun x => x.ok c.prog (frZ g n)) && ((c.ck.all fun k => k.ok (frZ g n)) && tabZ c g (frZ g n)))
def valZ (c : HK) : AlZ := (He.valD c.fn, c.xs.map XD.val, true)
structure SaysZ (c : HK) (h : Heap) (K : PySem.W.Frag) : Prop where
  d : He.SaysD c.fa c.fn K
  xo : c.xs.map (xObs K) = c.xs.map XD.val
  xok : ∀ x ∈ c.xs, x.ok c.prog K = true
  ck : ∀ k ∈ c.ck, k.ok K = true
  hd : ∀ p ∈ c.tf, PySem.W.codeHdIn K (He.cT K p.1).1 (He.cT K p.1).2 = true
  out : ∀ p ∈ c.tf, K.lookup (He.cT K p.1).2 = none
  empty : ∀ p ∈ c.tf, h.get? (He.cT K p.1).2 = some { cls := .none, data := .fields #[] }
  one : (c.tf.map fun p => (He.cT K p.1).2).Nodup
theorem saysZ_of {c : HK} {n : Nat} {h : Heap} (e : obsZ c n h.get? = valZ c) : SaysZ c h (frZ h.get? n) := by
  have e1 : He.obsD c.fa c.fn (frZ h.get? n) = He.valD c.fn := congrArg (fun z : AlZ => z.1) e
  have e2 : c.xs.map (xObs (frZ h.get? n)) = c.xs.map XD.val := congrArg (fun z : AlZ => z.2.1) e
  have e3 : ((c.xs.all fun x => x.ok c.prog (frZ h.get? n)) && ((c.ck.all fun k => k.ok (frZ h.get? n)) && tabZ c h.get? (frZ h.get? n))) = true := congrArg (fun z : AlZ => z.2.2) e
  obtain ⟨h1, e3⟩ := Bool.and_eq_true_iff.mp e3
  obtain ⟨h2, e3⟩ := Bool.and_eq_true_iff.mp e3
  obtain ⟨h3, h4⟩ := Bool.and_eq_true_iff.mp e3
  have key : ∀ p ∈ c.tf, PySem.W.codeHdIn (frZ h.get? n) (He.cT (frZ h.get? n) p.1).1 (He.cT (frZ h.get? n) p.1).2 = true ∧ ∃ o, h.get? (He.cT (frZ h.get? n) p.1).2 = some o ∧ He.emptyTab o = true := fun p hp => by
    obtain ⟨k1, k2⟩ := Bool.and_eq_true_iff.mp (List.all_eq_true.mp h3 p.1 (List.mem_map_of_mem hp))
    refine ⟨k1, ?_⟩
    cases q : h.get? (He.cT (frZ h.get? n) p.1).2 with
    | none => rw [q] at k2; cases k2
    | some o => rw [q] at k2; exact ⟨o, rfl, k2⟩
  refine ⟨e1, e2, List.all_eq_true.mp h1, List.all_eq_true.mp h2, fun p hp => (key p hp).1, fun p hp => ?_, fun p hp => ?_, of_decide_eq_true h4⟩
  · obtain ⟨_, o, q, z⟩ := key p hp
    exact He.frT_none q z
  · obtain ⟨_, o, q, z⟩ := key p hp
    rw [q, He.emptyTab_eq z]
def hookZ (c : HK) (n : Nat) : PySem.W.Hook where
  α := AlZ
  obs := fun s => obsZ c n s.heap.get?
  val := fun _ => valZ c
  says := fun _ h => ∃ K : PySem.W.Frag, K.In h ∧ SaysZ c h K
  of := fun _ _ e => ⟨_, He.frT_in, saysZ_of e⟩
  keeps := fun _ _ _ ⟨K, hK, z⟩ k => ⟨K, PySem.W.Frag.In.keeps hK k, ⟨z.d, z.xo, z.xok, z.ck, z.hd, z.out, fun p hp => k _ _ (z.empty p hp), z.one⟩⟩
theorem obsZ_eq {c : HK} {n : Nat} {g : Addr → Option Obj} {s : Shared} (h : ∀ a, g a = s.heap.get? a) : obsZ c n g = (hookZ c n).obs s := by
  have e : g = s.heap.get? := funext h
  rw [e] <;> rfl
/-- the lambdas' tables of a law -/
abbrev HK.lt (c : HK) : LT := ⟨fun K => c.tf.map fun p => ((He.cT K p.1).2, p.2 ++ ".<locals>." ++ "<lambda>")⟩
section
variable {c : HK} {h : Heap} {K : PySem.W.Frag} {mg : Str → Option Value}
theorem SaysZ.exI (z : SaysZ c h K) {x : XD} (hx : x ∈ c.xs) (sh : x.Shape c.prog) : ExI c.prog K (He.ga K x.c) x.f := by
  refine x.exI sh ?_ (z.xok x hx)
  obtain ⟨i, hi, e⟩ := List.mem_iff_getElem.mp hx
  have q := congrArg (fun l => l[i]?) z.xo
  simp only [List.getElem?_map, List.getElem?_eq_getElem hi, e, Option.map_some, Option.some.injEq] at q
  exact q
theorem SaysZ.fact (z : SaysZ c h K) {f : He.Fa} (hf : f ∈ c.fa) : f.ok K = true := z.d.facts hf
theorem SaysZ.glo (z : SaysZ c h K) (X : K.In h) (G : h.Ns mainGlobals mg) {x : Str} (hf : .glo x ∈ c.fa) : mg x = some (.ref (He.ga K x)) := He.glo_ok X G (z.fact hf)
theorem nodup_map_inj {α β : Type} {f : α → β} : ∀ {l : List α} {a b : α}, (l.map f).Nodup → a ∈ l → b ∈ l → f a = f b → a = b
  | [], a, b, _, ha, _, _ => by cases ha
  | x :: l, a, b, nd, ha, hb, e => by
    obtain ⟨n1, n2⟩ := List.nodup_cons.mp nd
    rcases List.mem_cons.mp ha with h1 | h1
    · rcases List.mem_cons.mp hb with h2 | h2
      · rw [h1, h2]
      · exact absurd (List.mem_map.mpr ⟨b, h2, by rw [← e, h1]⟩) n1
    · rcases List.mem_cons.mp hb with h2 | h2
      · exact absurd (List.mem_map.mpr ⟨a, h1, by rw [e, h2]⟩) n1
      · exact nodup_map_inj n2 h1 h2 e
/-- the tables of the def p -/
theorem SaysZ.uni (z : SaysZ c h K) {p : He.Defn × Str} (hp : p ∈ c.tf) : ∀ q ∈ (c.lt).tf K, q.1 = (He.cT K p.1).2 → q.2 = p.2 ++ ".<locals>." ++ "<lambda>" := fun q hq e => by
  obtain ⟨r, hr, rfl⟩ := List.mem_map.mp hq
  have e : (He.cT K r.1).2 = (He.cT K p.1).2 := e
  rw [nodup_map_inj z.one hr hp e]
theorem SaysZ.law {l : PySem.W.OpenLaw} {w : World} {k n : Nat} {x : Str} {fa : Addr} {fd : FuncData} {S : List EV → Out EV} (z : SaysZ c h K) (X : K.In h) (hb : ∀ (s : Shared) (u : Value), BindsTo s fd ⟨[u], []⟩ [(x, u)]) (hs : Says S n)
    (hF : ∀ base : Heap, K.In base → base.Ns mainGlobals mg → (∀ p ∈ c.tf, TabB base mg (He.cT K p.1).1 (He.cT K p.1).2) → @FnG c.lt l.prog w K mg base k fa fd [x] S) : @LawAtG c.lt l w K k n x mg fa h := by
  refine ⟨fd, c.tf.map fun p => He.cT K p.1, S, fun p hp => ?_, fun p hp => ?_, fun p hp => ?_, fun p hp => ?_, hb, hs, fun base hK hN ht => hF base hK hN fun p hp => ht _ (List.mem_map.mpr ⟨p, hp, rfl⟩)⟩
  · obtain ⟨q, hq, rfl⟩ := List.mem_map.mp hp
    exact z.empty q hq
  · obtain ⟨q, hq, rfl⟩ := List.mem_map.mp hp
    exact z.out q hq
  · obtain ⟨q, hq, rfl⟩ := List.mem_map.mp hp
    exact PySem.W.codeHd_of_K X (z.hd q hq)
  · obtain ⟨q, hq, rfl⟩ := List.mem_map.mp hp
    exact ⟨_, List.mem_map.mpr ⟨q, hq, rfl⟩, rfl⟩
end
theorem walk_ofG [LT] {l : PySem.W.OpenLaw} {n k : Nat} {q : Program} {loose : List Str} {XP : (Str → Option Value) → Heap → Prop} {YP : World → Heap → Prop} {d : DefRec} {x : Str} (hn : l.most = some n) (hn2 : n ≤ sizeLine) (hdf : d.params.defaults = []) (hr : Room k callerA)
    (F : ∀ (w : World) (mg : Str → Option Value) (fa : Addr) (h : Heap), YP w h → h.Ns mainGlobals mg → mg d.name = some (.ref fa) → ∃ K : PySem.W.Frag, K.In h ∧ LawAtG l w K k n x mg fa h) :
    PySem.W.WalkO q loose XP YP l.row.toRowW d [] (fun f vs => PySem.call f vs) := by
  refine Att.attach_callB hn hdf fun w s₀ s₁ mg mb fa o pm cd doc a vs ns G Y ho hd hcd hmg hobj hints hlen hbits hg => ?_
  obtain ⟨K, KX, fd, cs, S, hT, nT, C, hL, hb, hs, hF⟩ := F w mg fa _ Y G.T.g hmg
  refine law_callG KX G.T.g G.T.b G.T.builtins G.T.nolimit hg hT nT C G.T.bmain hobj hints (Nat.le_trans hlen hn2) hr hF hb fun H hH hS => ?_
  obtain ⟨os, ho⟩ := hs ns hlen hbits
  refine says_sp ho hS fun p hp => ?_
  obtain ⟨q, hq, e⟩ := hL p hp
  exact TabS.nil (by rw [← e]; exact hH q hq)
/-! ### a def, its code object told -/
theorem fnG_ofC [LT] {P : Program} {w : World} {K : PySem.W.Frag} {mg : Str → Option Value} {base : Heap} {at_ : Str × Option Str} {x qual : Str} {params : Arguments} {body : List Stmt} {scope : Scope} {dvs : List V} {kws : List (Str × V)} {fd : FuncData} {N ps : List Str} {k : Nat} {Pr : Nat → Bool} {B : MS}
    (F : FunD K x qual params body scope dvs kws (He.fAd K at_) fd) (S : FnScope N ps scope) (hn : ps.length ≤ N.length)
    (hb : ∀ (A : Around) (outer : List Env) (s : Shared) (H : Hp) (E : XK), A.guards = some [] → Room k (A.deeper (envOfC qual scope s.heap.objs.size (He.fAd K at_) (.ref (He.codeOf K at_)))) →
      DSs (cxOf (CX P w) P w K mg base N qual scope (He.fAd K at_) (.ref (He.codeOf K at_)) A outer s H E) (WofE E) Pr body B) : FnG P w K mg base (k + 1) (He.fAd K at_) fd ps (fnS ps.length N.length Pr B) := by
  obtain ⟨oc, od, dV, kV, doc, pm, an, cdv, ct, osl, rfl, lk, hcd, h4, h5⟩ := F.ex
  obtain ⟨cc, hc⟩ := He.codeIn_ref hcd
  subst hc
  have e : He.codeOf K at_ = cc := He.codeOf_eq lk rfl
  have F2 : FunD K x qual params body scope dvs kws (He.fAd K at_) (PySem.W.fnOf x qual params body scope dV kV doc pm an (.ref cc) ct) := ⟨⟨oc, od, dV, kV, doc, pm, an, .ref cc, ct, osl, rfl, lk, hcd, h4, h5⟩, F.kp⟩
  have lim := S.nd
  constructor
  intro A outer s H args us vs Q E hg hr e0 hbd r hsp
  have hlen : vs.length = ps.length := hsp.1
  have inS : K.In s.heap := e0.mod.kin.keeps (fun b o e => (e0.bs b o e).1)
  have noL : s.heap.NoLimit := e0.mod.nolimit.keeps (fun b o e => (e0.bs b o e).1)
  have kinds : ∀ y ∈ ps.zip us, scope.names.lookup y.1 = some .local ∨ (scope.names.lookup y.1 = some .cell ∧ ((cellsFrom (s.heap.objs.size + 1) scope.names []).lookup y.1).isSome = true) := by
    rintro ⟨y, v⟩ hy
    rcases S.par y (List.of_mem_zip hy).1 with q | q
    · exact Or.inl q
    · exact Or.inr ⟨q, PySem.W.cellsFrom_some _ _ _ (Or.inl q)⟩
  refine codeAny_call_function hr.depth (inS _ _ lk) rfl S.co S.gen rfl (PySem.W.codeRec_of inS hcd) (hbd _ _ _ _ ?_)
  refine wpAny_newFunctionEnv_cells S.kind kinds ?_
  rintro env rfl s1 xx
  refine ⟨noL.keeps xx.toInCall.keep, codeAny_func ?_⟩
  have I0 := inv_start (CX := CX P w) (E := E) S hr.hd e0 hlen r xx
  have hb2 := hb A outer s H E hg (by rw [e]; exact hr.deeper _)
  rw [e] at hb2
  refine wpAny_mono (hb2.run [] s1 (L2.start N vs) H _ I0 (body_read hn hsp)) ?_ (fun _ _ z => z)
  intro fl s' hs
  cases fl with
  | ret u =>
    obtain ⟨v, σ', H', J, rv, q⟩ := hs
    exact ⟨v, H', J.os, J.bare, J.base, J.hok, rv, q⟩
  | next =>
    obtain ⟨σ', H', J, q⟩ := hs
    exact ⟨V.non, H', J.os, J.bare, J.base, J.hok, rfl, q⟩
  | brk => obtain ⟨_, _, _, q⟩ := hs; exact q.elim
  | cont => obtain ⟨_, _, _, q⟩ := hs; exact q.elim
end DL

namespace DL
open PySem PySem.Spec PySem.W

/-! ### enumerate, of a list or a tuple -/
theorem meets_enumB {v : Value} {o : Obj} {H : Heap → Prop} (B : Begins v o H) :
    Meets (Builtin.«enumerate.__new__» ⟨[.type "enumerate", v], []⟩) (fun _ R s => H s.heap ∧
      R (.ok (.ret (.ref (s.heap.push o).objs.size))) { s with heap := (s.heap.push o).push { cls := .type "enumerate", data := .fields #[.none, .bool false, .ref s.heap.objs.size, rawInt 0, .none, .none] } }) :=
  .of_wp fun prog w A R s h => by
    obtain ⟨hp, g, dr, tk, os⟩ := s
    obtain ⟨h1, h2⟩ := h
    have sub := PySem.sub_enumerate
    have it : ∀ {A' : Around} {E : Value → Shared → Prop} {Q : Value → Shared → Prop}, Q (.ref hp.objs.size) ⟨hp.push o, g, dr, tk, os⟩ → wpAny (model prog w) A' (pyIter v) Q E ⟨hp, g, dr, tk, os⟩ :=
      fun q => B.iter prog w _ _ ⟨hp, g, dr, tk, os⟩ _ h1 q
    wp_walk using it
    refine wpAny_stack_any fun st => wpAny_pure ?_
    split
    · rename_i c _ _ _ _ _
      cases (c == Value.type "enumerate")
      · wp_walk using it
        exact ⟨_, rfl, h2⟩
      · wp_walk using it
        exact ⟨_, rfl, h2⟩
    · wp_walk using it
      exact ⟨_, rfl, h2⟩
theorem enum_begins1 {prog : Program} {w : World} {A : Around} {E : Value → Shared → Prop} {s : Shared} {v : Value} {o : Obj} {H : Heap → Prop} {Q : Value → Shared → Prop} (B : Begins v o H) (h1 : H s.heap)
    (z : ∀ h', IsEnum h' (s.heap.objs.size + 1) s.heap.objs.size 0 .none → h'.get? s.heap.objs.size = some o → (∀ b u, s.heap.get? b = some u → h'.get? b = some u) → Q (.ref (s.heap.objs.size + 1)) { s with heap := h' }) :
    wpAny (model prog w) A (call (.type "enumerate") [v]) Q E s := by
  refine callType_new F.called_enumerate (by decide) (F.typeCall_enumerate_1 _) (F.newCall_enumerate_1 _) (fun obj => F.args_object_init_2 obj _) F.entry_enumerate_new (meets_enumB B) ⟨h1, ?_⟩
  have sz : (s.heap.push o).objs.size = s.heap.objs.size + 1 := Heap.size_push ..
  show _ ∧ _
  rw [sz]
  have en : IsEnum ((s.heap.push o).push { cls := .type "enumerate", data := .fields #[.none, .bool false, .ref s.heap.objs.size, rawInt 0, .none, .none] }) (s.heap.objs.size + 1) s.heap.objs.size 0 .none := by
    have y := Heap.get?_push_size (s.heap.push o) (o := { cls := .type "enumerate", data := .fields #[.none, .bool false, .ref s.heap.objs.size, rawInt 0, .none, .none] }) rfl
    rw [sz] at y
    exact y
  exact ⟨⟨_, en, rfl⟩, z _ en (Heap.get?_push_of_some _ (Heap.get?_push_size _ B.free)) fun b u x => Heap.get?_push_of_some _ (Heap.get?_push_of_some _ x)⟩
end DL
namespace DL
open PySem PySem.Spec PyProof.Rows L2
/-- the tuple at a, each item in a new pair -/
def IteT (K : PySem.W.Frag) (a : Addr) : It :=
  ⟨fun i H => ∃ (xs : List V) (x : V), SqT K H a xs ∧ xs[i]? = some x, fun i H v H' => ∃ T x, v = .ref T ∧ H T = none ∧ H' = upd H T (.tup [.int (i : Nat), x]) ∧ ∀ xs, SqT K H a xs → xs[i]? = some x, fun i H => ∃ xs : List V, SqT K H a xs ∧ xs.length ≤ i⟩
theorem turn_enumT {P : Program} {w : World} {K : PySem.W.Frag} {elts : List Expr} {kk : Nat} {tpos : Pos} (a e it : Addr) :
    Turn P w K (.Tuple elts kk tpos) (IteT K a) [e, it] e (fun i h => (∃ old, IsEnum h e it ((i : Nat) : Int) old) ∧ h.IsTupleIter it a i ∧ e ≠ it) where
  mem := by simp
  obj := fun i h st b hb => by
    obtain ⟨⟨old, he⟩, ⟨o, ho, hc, hd⟩, _⟩ := st
    have hb2 : b = e ∨ b = it := by simpa using hb
    rcases hb2 with z | z
    · rw [z]
      exact ⟨_, he, fun v q => nomatch q⟩
    · rw [z]
      exact ⟨o, ho, fun v q => by rw [hd] at q; cases q⟩
  keep := fun i h h' st k => by
    obtain ⟨⟨old, he⟩, hi, hne⟩ := st
    exact ⟨⟨old, k e (by simp) _ he⟩, hi.at fun o q => k it (by simp) o q, hne⟩
  item := by
    intro X hP hw hK hc i pins s σ H E I hf st hg
    subst hP hw hK
    obtain ⟨⟨old, he⟩, hit, hne⟩ := st
    obtain ⟨xs, x, hq, hx⟩ := hg
    obtain ⟨its, rv, p, hz⟩ := I.tuple hq
    have p : s.heap.IsTuple a its.toArray := p
    obtain ⟨u, hu, ru⟩ := rv.get hx
    have le : e < s.heap.objs.size := Heap.lt_size he
    have li : it < s.heap.objs.size := by
      obtain ⟨_, q, _⟩ := hit
      exact Heap.lt_size q
    have nai : a ≠ it := fun z => by
      obtain ⟨o, o1, o2, _⟩ := hit
      obtain ⟨o', q1, q2, _⟩ := p
      rw [z, o1] at q1
      cases q1
      rw [o2] at q2
      exact absurd q2 (by decide)
    have nae : e ≠ a := fun z => by
      obtain ⟨o', q1, q2, _⟩ := p
      have he2 : s.heap.get? e = some _ := he
      rw [z, q1] at he2
      have z3 := congrArg Obj.cls (Option.some.inj he2)
      rw [q2] at z3
      exact absurd z3 (by show ¬ (Value.type "tuple" = Value.type "enumerate"); decide)
    have hd : X.A.in1.handled = none := I.ok.hd hc
    refine wpAny_pyNext_enum_itemD (Draws.tuple hd it a nai its.toArray) he ⟨hit, p⟩ (show i < its.toArray.size by
      have y := (List.getElem?_eq_some_iff.mp hu).1
      simpa using y) hne (by simp [hne, nae]) fun y h' tk hP ho hst' hT hsz hk => ?_
    have ey : y = u := by
      have z : its.toArray[i]? = some y := hP
      have z2 : its.toArray[i]? = some u := by simpa using hu
      rw [z2] at z
      exact (Option.some.inj z).symm
    subst ey
    refine ⟨_, rfl, wpAny_letOwnedTupleGo_enum (s := { s with heap := h', toks := tk + 1 }) ho fun h'' he' sb => ?_⟩
    have hT2 : h''.get? s.heap.objs.size = some { cls := .type "tuple", data := .seq #[.int i tk, y] } := (sb.2 _ (Nat.ne_of_gt le)).trans hT
    have new : ObjOk X.prog X.w (upd H s.heap.objs.size (.tup [.int (i : Nat), x])) h'' s.heap.objs.size (.tup [.int (i : Nat), x]) :=
      ⟨by show 2 ≤ sizeLine; decide, [.int i tk, y], .cons ⟨_, rfl⟩ (.cons ru .nil), ⟨_, hT2, rfl, _, rfl⟩⟩
    have J : Inv X pins σ (upd H s.heap.objs.size (.tup [.int (i : Nat), x])) { s with heap := h'', toks := tk + 1 } :=
      I.turnedNew (ch := [e, it]) (fun b ob hb q => (sb.2 b (fun z => hb (by simp [z]))).trans (hk b ob (fun z => hb (by simp [z])) (fun z => hb (by simp [z])) q)) hf (Nat.le_refl _) new
    refine ⟨.ref s.heap.objs.size, _, J, rfl, ⟨_, x, rfl, I.hok.fresh (Nat.le_refl _), rfl, fun ys hy => by rw [I.tuple_inj hy hq]; exact hx⟩, ⟨⟨y, ?_⟩, hst'.1.at fun o q => (sb.2 it (Ne.symm hne)).trans q, hne⟩, fun b hb => ?_⟩
    · have e1 : ((i + 1 : Nat) : Int) = (i : Int) + 1 := by omega
      rw [e1]
      exact he'
    · have lb : b < s.heap.objs.size := by
        have hb2 : b = e ∨ b = it := by simpa using hb
        rcases hb2 with z | z
        · rw [z]; exact le
        · rw [z]; exact li
      rw [upd_ne (Nat.ne_of_lt lb)]
      exact (hf b hb).1
  done := by
    intro X hP hw hK hc i pins s σ H E I hf st hg
    subst hP hw hK
    obtain ⟨⟨old, he⟩, hit, hne⟩ := st
    obtain ⟨xs, hq, hx⟩ := hg
    obtain ⟨its, rv, p, hz⟩ := I.tuple hq
    have p : s.heap.IsTuple a its.toArray := p
    obtain ⟨f0, f1, f2, f3, f4, f5⟩ := hf it (by simp)
    have hd : X.A.in1.handled = none := I.ok.hd hc
    have ln := rv.length
    have hT : s.TypeIs (.ref e) "enumerate" := ⟨_, he, rfl⟩
    unfold pyNext
    refine wpAny_bind (wpAny_attempt (wpAny_callSpecial?_slot (name := Str.ofString "__next__") hT F.slot_enumerate_next (wpAny_call_entry F.slot_enumerate_next hT F.entry_enumerate_next ?_ (F.args_enumerate_next_1 _))))
    show wpAny _ _ (field (.ref e) 2 >>= _) _ _ _
    refine wpAny_bind (wpAny_field he rfl (x := .ref it) rfl ?_)
    refine wpAny_bind (wpAny_nextOf_tuple_end hd hit p (by simp; omega) fun h' x eb hx2 => ?_)
    obtain ⟨o, ho, hc2⟩ := hx2
    refine wpAny_bind (wpAny_isInstance (T := "StopIteration") (b := true) ⟨o, ho, hc2⟩ isSubtype_stop ?_)
    exact wpAny_pure ⟨rfl, I.turned (t' := s.toks) (fun b o hb q => eb b o hb q) f0 f1 f3 f4 f5⟩
  self := fun A i s Q E st h => let ⟨⟨_, he⟩, _⟩ := st; wpAny_pyIter_enum he h
/-- enumerate(e), e a list or a tuple -/
def iEnumU (K : PySem.W.Frag) (te : TE) : TI := fun σ H R => te σ H fun x H1 => ∃ a, x = .ref a ∧ (((∃ xs, SqL K H1 a xs) ∧ R (Ite K a) H1) ∨ ((∃ xs, SqT K H1 a xs) ∧ R (IteT K a) H1))
theorem pi_enumU {X : Cx} {e : Expr} {te : TE} {p pos tpos : Pos} {elts : List Expr} {kk : Nat} (hg : Gl X "enumerate") (hm : X.mg "enumerate" = none) (he : PE X e te) (hs : starEach [e] X.env = (false, eval e X.env) :: starEach [] X.env := by rfl) (hpl : (backTo pos (starEach [] X.env)).any (·.1) = false := by rfl) :
    PI X (.Tuple elts kk tpos) (.Call (.Name "enumerate" p) [e] [] pos) (iEnumU X.K te) := by
  refine ⟨fun pins s σ H R I h => ?_⟩
  refine Call_ (ld_blt I hg hm boot_enumerate (PyProof.Rows.callWith_type1 (args_cons (thn (he.run pins s σ H _ I h) fun u s1 ⟨x, H1, I1, r1, q1⟩ => args_nil ?_) hs) hs hpl))
  obtain ⟨a, ex, q⟩ := q1
  subst ex
  cases r1
  have fresh : ∀ b ∈ [s1.heap.objs.size + 1, s1.heap.objs.size], FpOk X pins H1 b := fun b hb => by
    have hb2 : b = s1.heap.objs.size + 1 ∨ b = s1.heap.objs.size := by simpa using hb
    have le : s1.heap.objs.size ≤ b := by
      rcases hb2 with z | z
      · rw [z]; exact Nat.le_add_right _ _
      · rw [z]; exact Nat.le_refl _
    exact I1.fpOk le (I1.hok.fresh le)
  rcases q with ⟨⟨xs, hq⟩, q⟩ | ⟨⟨xs, hq⟩, q⟩
  · obtain ⟨its, rv, pl, hz⟩ := I1.list hq
    refine call_enumerate_list pl.isList fun h' en hit hsz hk => wpAny_pyIter_enum en ?_
    exact ⟨s1.heap.objs.size + 1, [s1.heap.objs.size + 1, s1.heap.objs.size], _, _, H1, rfl, I1.kept (t' := s1.toks) hk, turn_enum a (s1.heap.objs.size + 1) s1.heap.objs.size, ⟨⟨.none, en⟩, hit, Nat.succ_ne_self _⟩, fresh, q⟩
  · obtain ⟨its, rv, pl, hz⟩ := I1.tuple hq
    have pl : s1.heap.IsTuple a its.toArray := pl
    refine enum_begins1 (PySem.begins_tuple a its.toArray) pl fun h' en hit hk => wpAny_pyIter_enum en ?_
    exact ⟨s1.heap.objs.size + 1, [s1.heap.objs.size + 1, s1.heap.objs.size], _, _, H1, rfl, I1.kept (t' := s1.toks) hk, turn_enumT a (s1.heap.objs.size + 1) s1.heap.objs.size, ⟨⟨.none, en⟩, ⟨_, hit, rfl, rfl⟩, Nat.succ_ne_self _⟩, fresh, q⟩
variable [LT]
def enD (ds : List D) : List D := (List.range ds.length).zipWith (fun i d => .pr (.int (i : Nat)) d) ds
theorem enD_get (ds : List D) (i : Nat) : (enD ds)[i]? = (ds[i]?).map fun d => .pr (.int (i : Nat)) d := by
  unfold enD
  rw [List.getElem?_zipWith]
  by_cases h : i < ds.length
  · rw [List.getElem?_range h, List.getElem?_eq_getElem h]
    rfl
  · rw [List.getElem?_eq_none (by simpa using h), List.getElem?_eq_none (by simpa using h)]
    rfl
theorem enD_length (ds : List D) : (enD ds).length = ds.length := by
  unfold enD
  simp
theorem walk_en {R : RC} {G : Hp} {a : Addr} {xs : List D} {vs : List V} (h : SqL R.K G a vs) (r : Reps R G xs vs) : Walk R G (Ite R.K a) (enD xs) := by
  intro i Gc Hc s1 s2
  have hl : SqL R.K Hc a vs := s2.sqL (s1.sqL h)
  refine ⟨fun hi => ⟨vs, hl, by rw [← r.length, ← enD_length]; exact hi⟩, fun d hd => ?_⟩
  rw [enD_get] at hd
  obtain ⟨d0, hd0, ed⟩ := Option.map_eq_some_iff.mp hd
  subst ed
  obtain ⟨v, e1, e2⟩ := r.get hd0
  refine ⟨⟨vs, v, hl, e1⟩, fun x H' ⟨T, y, y1, y2, y3, y4⟩ => ?_⟩
  subst y1 y3
  have e3 := y4 vs hl
  rw [e1] at e3
  cases e3
  have al : Alo Gc Hc (upd Gc T (.tup [.int (i : Nat), v])) (upd Hc T (.tup [.int (i : Nat), v])) := .new s2 y2
  exact ⟨_, al, T, .int (i : Nat), v, rfl, upd_same, rfl, (e2.mono s1).mono al.sub⟩
theorem walk_enT {R : RC} {G : Hp} {a : Addr} {xs : List D} {vs : List V} (h : SqT R.K G a vs) (r : Reps R G xs vs) : Walk R G (IteT R.K a) (enD xs) := by
  intro i Gc Hc s1 s2
  have hl : SqT R.K Hc a vs := s2.sqT (s1.sqT h)
  refine ⟨fun hi => ⟨vs, hl, by rw [← r.length, ← enD_length]; exact hi⟩, fun d hd => ?_⟩
  rw [enD_get] at hd
  obtain ⟨d0, hd0, ed⟩ := Option.map_eq_some_iff.mp hd
  subst ed
  obtain ⟨v, e1, e2⟩ := r.get hd0
  refine ⟨⟨vs, v, hl, e1⟩, fun x H' ⟨T, y, y1, y2, y3, y4⟩ => ?_⟩
  subst y1 y3
  have e3 := y4 vs hl
  rw [e1] at e3
  cases e3
  have al : Alo Gc Hc (upd Gc T (.tup [.int (i : Nat), v])) (upd Hc T (.tup [.int (i : Nat), v])) := .new s2 y2
  exact ⟨_, al, T, .int (i : Nat), v, rfl, upd_same, rfl, (e2.mono s1).mono al.sub⟩
def enI (Fa : M D) : M (List D) := bnd Fa fun d => ofO ((itemsOf d).map enD)
theorem di_enum {X : Cx} {W : WX} {a : Expr} {Fa : M D} {p pos tpos : Pos} {elts : List Expr} {kk : Nat} (hg : Gl X "enumerate") (hm : X.mg "enumerate" = none) (ha : DE X W a Fa) (hs : starEach [a] X.env = (false, eval a X.env) :: starEach [] X.env := by rfl) (hpl : (backTo pos (starEach [] X.env)).any (·.1) = false := by rfl) :
    DI X W (.Tuple elts kk tpos) (.Call (.Name "enumerate" p) [a] [] pos) (enI Fa) := PI.imp (pi_enumU hg hm ha hs hpl) fun σ H Q h => by
  refine tM_then (P1 := Rep (rc X)) h fun G1 env1 f1 d v H1 e p q => ?_
  obtain ⟨ds, hd, q2⟩ := q.fin' e
  obtain ⟨xs, hx, ex⟩ := Option.map_eq_some_iff.mp hd
  subst ex
  clear q
  cases d with
  | lst ys =>
    cases hx
    obtain ⟨a, vs, rfl, h2, h3⟩ := p
    exact ⟨a, rfl, .inl ⟨⟨vs, SqL.of (e.sub _ _ h2)⟩, q2 _ (walk_en (R := rc X) (SqL.of h2) h3)⟩⟩
  | tup ys =>
    cases hx
    obtain ⟨a, vs, rfl, h2, h3⟩ := p
    exact ⟨a, rfl, .inr ⟨⟨vs, (e.sub.tpA h2).sq⟩, q2 _ (walk_enT (R := rc X) h2.sq h3)⟩⟩
  | scr ns =>
    cases hx
    obtain ⟨a, rfl, h2⟩ := p
    exact ⟨a, rfl, .inl ⟨⟨_, e.sub.sqL h2⟩, q2 _ (walk_en (R := rc X) h2 (ints_reps ns))⟩⟩
  | _ => cases hx
end DL

namespace DL
open PySem PySem.Spec PyProof.Rows L2
variable [LT]

/-! ### x(..), x a slot that holds a def -/
structure VFn (X : Cx) (nm : Str) (n : Nat) (S : List EV → Out EV) : Prop where
  fn : ∃ (k : Nat) (f : Addr) (fd : FuncData) (ps : List Str), FnG X.prog X.w X.K X.mg X.base k f fd ps S ∧ Room k X.A ∧ X.mg nm = some (.ref f) ∧ PySem.W.keepIn X.K (.ref f) = true ∧ Binds X.K fd ps [] ∧ ps.length = n
def callV (tbl : List (Str × Nat × (List EV → Out EV))) (i : Nat) (Fx : M (List Arg)) : M EV := fun e => match e[i]? with
  | some (.v (.gl nm)) => (match tbl.lookup nm with
    | some (n, S) => callF n S [] Fx e
    | none => .no)
  | _ => .no
theorem do_callV {X : Cx} {W : WX} {tbl : List (Str × Nat × (List EV → Out EV))} {i : Nat} {x : Str} {p pos : Pos} {e : Expr} {es : List Expr} {Fx : M (List Arg)} (hv : PE X (.Name x p) (tVar i)) (ht : ∀ nm n S, tbl.lookup nm = some (n, S) → VFn X nm n S) (hgd : X.A.guards = some [])
    (hx : ∀ σ, PassesAt (CX X.prog X.w) X σ (WEat W σ)) (ha : DX X W (e :: es) Fx)
    (he : starEach (e :: es) X.env = (false, eval e X.env) :: starEach es X.env := by rfl) (hpl : (backTo pos (starEach es X.env)).any (·.1) = false := by rfl) : DO X W (.Call (.Name x p) (e :: es) [] pos) (callV tbl i Fx) := by
  constructor
  intro pins s σ H Q I h
  obtain ⟨G, env, fp, ev, q⟩ := h
  unfold callV at q
  split at q
  · rename_i nm hi
    split at q
    · rename_i n S hl
      obtain ⟨k, f, fd, ps, F, hr, hm, hk, hb, hn⟩ := (ht nm n S hl).fn
      subst hn
      obtain ⟨s0, f1, f2, f3, h1, h2, h3, h4⟩ := ev.sl.at hi
      obtain ⟨_, v, hv2, a, ha1, ha2⟩ := h3
      have ha1 : X.mg nm = some (.ref a) := ha1
      rw [hm] at ha1
      cases ha1
      subst hv2 ha2
      have name := hv.run pins s σ H (fun v H1 => v = .ref f ∧ H1 = H) I ⟨.ref f, h1, rfl, rfl⟩
      refine wpAny_Call_Name_kw (thn name fun u s1 ⟨v, H1, I1, r1, e1, e2⟩ => ?_)
      subst e1
      rw [e2] at I1
      obtain rfl : u = Value.ref f := r1
      have h2 := tO_bind (P1 := ArgsR (rc X) σ) ⟨G, env, fp, ev, q⟩ fun G1 env1 f1 as vs H1 e1 p1 q1 => call_go (dd := []) (dvs := []) e1 p1 (fun _ => rfl) q1
      refine PySem.W.callWith_K (h₀ := X.base) I.ok.mod.kin hk (thn (ha.run pos pins s1 σ H _ I1 h2) ?_) he hpl
      rintro us s2 ⟨vs, H2, I2, r, q⟩
      exact ⟨I2.kIn, run_fnG F hgd hr hb .nil (hx σ) I2 r q⟩
    · exact q.elim
  · exact q.elim
end DL

namespace DL
open PySem PySem.Spec PyProof.Rows L2 LamX

/-! ### what a law's defs may lean on -/
def fdOf (K : PySem.W.Frag) (p : Str × Option Str) : FuncData := match K.lookup (He.fAd K p) with
  | some ⟨_, _, .func fd, _⟩ => fd
  | _ => ⟨"", "", ⟨[], [], none, [], [], none, []⟩, .stmts [], ⟨.function, [], false, false, []⟩, 0, [], .none, .none, .none, .none, none, .none, .none, 0⟩
theorem fdOf_eq {K : PySem.W.Frag} {p : Str × Option Str} {x qual : Str} {params : Arguments} {body : List Stmt} {scope : Scope} {dvs : List V} {kws : List (Str × V)} {fd : FuncData} (F : FunD K x qual params body scope dvs kws (He.fAd K p) fd) : fdOf K p = fd := by
  obtain ⟨oc, od, dV, kV, doc, pm, an, cdv, ct, osl, h, lk, _⟩ := F.ex
  unfold fdOf
  rw [lk]
structure Cfx (c : HK) (K : PySem.W.Frag) (mg : Str → Option Value) (base : Heap) : Prop where
  h : ∃ h, K.In h ∧ h.Ns mainGlobals mg ∧ SaysZ c h K
  tb : ∀ p ∈ c.tf, TabB base mg (He.cT K p.1).1 (He.cT K p.1).2
section
variable {c : HK} {K : PySem.W.Frag} {mg : Str → Option Value} {base : Heap}
theorem Cfx.fact (C : Cfx c K mg base) {f : He.Fa} (hf : f ∈ c.fa) : f.ok K = true := by
  obtain ⟨h, X, G, z⟩ := C.h
  exact z.fact hf
theorem Cfx.glo (C : Cfx c K mg base) {x : Str} (hf : .glo x ∈ c.fa) : mg x = some (.ref (He.ga K x)) := by
  obtain ⟨h, X, G, z⟩ := C.h
  exact z.glo X G hf
theorem Cfx.free (C : Cfx c K mg base) {x : Str} (hf : .free x ∈ c.fa) : mg x = none := by
  obtain ⟨h, X, G, z⟩ := C.h
  exact He.free_ok X G (z.fact hf)
theorem Cfx.int (C : Cfx c K mg base) {x : Str} {i : Int} (hf : .int x i ∈ c.fa) : ∃ t, mg x = some (.int i t) := by
  obtain ⟨h, X, G, z⟩ := C.h
  exact He.int_ok X G (z.fact hf)
theorem Cfx.str (C : Cfx c K mg base) {x t : Str} (hf : .str x t ∈ c.fa) : ∃ u, mg x = some (.str t u) := by
  obtain ⟨h, X, G, z⟩ := C.h
  exact He.str_ok X G (z.fact hf)
theorem Cfx.def (C : Cfx c K mg base) {d : He.DefD} (hd : d ∈ c.fn) : FunD K d.name d.qual d.params d.body d.scope (d.dvs K) (d.kws K) (He.fAd K d.at_) (fdOf K d.at_) := by
  obtain ⟨h, X, G, z⟩ := C.h
  obtain ⟨fd, F⟩ := z.d.defs hd
  rw [fdOf_eq F]
  exact F
theorem Cfx.exI (C : Cfx c K mg base) {x : XD} (hx : x ∈ c.xs) (sh : x.Shape c.prog) : ExI c.prog K (He.ga K x.c) x.f := by
  obtain ⟨h, X, G, z⟩ := C.h
  exact z.exI hx sh
theorem Cfx.ckx (C : Cfx c K mg base) {k : Ck} (hk : k ∈ c.ck) : k.ok K = true := by
  obtain ⟨h, X, G, z⟩ := C.h
  exact z.ck k hk
theorem Cfx.uni (C : Cfx c K mg base) {p : He.Defn × Str} (hp : p ∈ c.tf) : ∀ q ∈ (c.lt).tf K, q.1 = (He.cT K p.1).2 → q.2 = p.2 ++ ".<locals>." ++ "<lambda>" := by
  obtain ⟨h, X, G, z⟩ := C.h
  exact z.uni hp
theorem Cfx.mem (C : Cfx c K mg base) {p : He.Defn × Str} (hp : p ∈ c.tf) : ((He.cT K p.1).2, p.2 ++ ".<locals>." ++ "<lambda>") ∈ (c.lt).tf K := List.mem_map.mpr ⟨p, hp, rfl⟩
/-- an ordinary class's instances: their fields -/
theorem Cfx.flds (C : Cfx c K mg base) {cl : List Str} {f : Str} (h1 : ∀ x ∈ cl, .glo x ∈ c.fa ∧ .cls x ∈ c.fa ∧ .noat x f ∈ c.fa) : ∀ x ∈ cl, ∀ D, mg x = some (.ref D) → Cls K D ∧ NoAttr K D f := fun x hx D hD => by
  obtain ⟨a1, a2, a3⟩ := h1 x hx
  have e := (C.glo a1).symm.trans hD
  cases e
  exact ⟨He.cls_ok (C.fact a2), He.noat_ok (C.fact a3)⟩
/-- a held exception's field -/
theorem Cfx.xflds (C : Cfx c K mg base) {cl : List Str} {f : Str} (h1 : ∀ x ∈ cl, .glo x ∈ c.fa ∧ .xfc x ∈ c.ck ∧ .noat x f ∈ c.fa) : ∀ x ∈ cl, ∀ D, mg x = some (.ref D) → XfC K D ∧ PySem.W.findIn K (.ref D) f = some none := fun x hx D hD => by
  obtain ⟨a1, a2, a3⟩ := h1 x hx
  have e := (C.glo a1).symm.trans hD
  cases e
  exact ⟨xfB_ok (C.ckx a2), He.noat_ok (C.fact a3)⟩
/-- a clause's class -/
theorem Cfx.exm (C : Cfx c K mg base) {x : Str} {y : Str} {b : Bool} (g1 : .glo x ∈ c.fa) (g2 : .glo y ∈ c.fa) (h1 : .exm x y b ∈ c.fa) {D D' : Addr} (hD : mg x = some (.ref D)) (hD' : mg y = some (.ref D')) : PySem.W.exmOne K (.ref D) (.ref D') = some b := by
  have e := (C.glo g1).symm.trans hD
  cases e
  have e := (C.glo g2).symm.trans hD'
  cases e
  exact He.exm_ok (C.fact h1)
end
/-- nothing is let out -/
theorem passNo {X : Cx} {σ : L2.St} : PassesAt (CX X.prog X.w) X σ (WEat Wno σ) := fun _ _ _ _ _ _ c => by
  obtain ⟨_, _, _, _, _, _, _, _, _, _, _, _, z⟩ := c
  exact z.elim
end DL

namespace DL
open PySem PySem.Spec PyProof.Rows L2
variable [LT]

/-! ### x, y, .. = (a, b, ..), own things among them -/
theorem set_app {α : Type} (b : List α) (i : Nat) (x : α) : ∀ a : List α, (a ++ b).set (a.length + i) x = a ++ b.set i x
  | [] => by simp
  | c :: a => by
    have z : (c :: a).length + i = (a.length + i) + 1 := by simp; omega
    rw [z]
    show c :: ((a ++ b).set (a.length + i) x) = c :: (a ++ b.set i x)
    rw [set_app b i x a]
def parL : List Nat → List EV → List EV → Option (List EV)
  | [], [], e => some e
  | i :: is, u :: us, e => (putE i u e).bind fun e1 => parL is us e1
  | _, _, _ => none
def setL : List Nat → List V → L2.St → L2.St
  | i :: is, v :: vs, σ => setL is vs (σ.set i (some v))
  | _, _, σ => σ
def parN (is : List Nat) (Fs : M (List EV)) : MS := bndS Fs fun evs e => match parL is evs e with
  | some e1 => .nx e1
  | none => .no
theorem putE_at {i : Nat} {u : EV} {e e1 : List EV} (us : List EV) (h : putE i u e = some e1) : putE (us.length + i) u (us ++ e) = some (us ++ e1) := by
  unfold putE at h ⊢
  split at h
  · rename_i hl
    cases h
    rw [if_pos (by simpa using hl)]
    rw [set_app]
  · cases h
theorem par_puts {R : RC} {G H : Hp} : ∀ {is : List Nat} {us : List EV} {vs : List V} {e e1 : List EV} {σ : L2.St} {f : List Addr}, EnvOk R G H (us ++ e) (vs.map some ++ σ) f → vs.length = us.length → parL is us e = some e1 → ∃ f', EnvOk R G H e1 (setL is vs σ) f' ∧ Stp G H f G H f'
  | [], [], [], e, e1, σ, f, k, _, h => by
    cases h
    exact ⟨f, k, .refl _ _ _⟩
  | i :: is, u :: us, v :: vs, e, e1, σ, f, k, hl, h => by
    obtain ⟨e2, h1, h2⟩ := Option.bind_eq_some_iff.mp (show (putE i u e).bind (fun e1 => parL is us e1) = some e1 from h)
    have hl : vs.length = us.length := by simpa using hl
    obtain ⟨f1, k1, s1⟩ := putE_ok (show EnvOk R G H (u :: (us ++ e)) (some v :: (vs.map some ++ σ)) f from k) (putE_at us h1)
    have eσ : (vs.map some ++ σ).set (us.length + i) (some v) = vs.map some ++ σ.set i (some v) := by
      have z := set_app (σ : List (Option V)) i (some v) (vs.map some)
      rw [List.length_map, hl] at z
      exact z
    rw [eσ] at k1
    obtain ⟨f2, k2, s2⟩ := par_puts k1 hl h2
    exact ⟨f2, k2, s1.trans s2⟩
  | [], [], _ :: _, _, _, _, _, _, hl, _ => by cases hl
  | [], _ :: _, _, _, _, _, _, _, _, h => by cases h
  | _ :: _, [], _, _, _, _, _, _, _, h => by cases h
  | _ :: _, _ :: _, [], _, _, _, _, _, hl, _ => by cases hl
theorem setL_kp {Pr : Nat → Bool} : ∀ {is : List Nat} {vs : List V} {σ : L2.St}, (∀ i ∈ is, Pr i = false) → Kp Pr σ (setL is vs σ)
  | [], vs, σ, _ => .refl σ
  | i :: is, [], σ, _ => .refl σ
  | i :: is, v :: vs, σ, h => (Kp.set (h i (List.mem_cons_self ..))).trans (setL_kp fun j hj => h j (List.mem_cons_of_mem _ hj))
theorem parL_len : ∀ {is : List Nat} {us e e1 : List EV}, parL is us e = some e1 → us.length = is.length
  | [], [], _, _, _ => rfl
  | i :: is, u :: us, e, e1, h => by
    obtain ⟨e2, h1, h2⟩ := Option.bind_eq_some_iff.mp (show (putE i u e).bind (fun e1 => parL is us e1) = some e1 from h)
    simp [parL_len h2]
  | [], _ :: _, _, _, h => by cases h
  | _ :: _, [], _, _, h => by cases h
section
variable {X : Cx} {W : WX} {Pr : Nat → Bool} {a b c : Expr} {pos : Pos} {i j l : Nat} {x y z : Str} {Fs : M (List EV)}
theorem par_end {D : Ends} {σ : L2.St} {H : Hp} {is : List Nat} {Q : List V → Hp → Prop} (hp : ∀ i ∈ is, Pr i = false) (h : tS (rc X) W Pr (parN is Fs) D σ H) (w : ∀ vs H1, vs.length = is.length → D.nx (setL is vs σ) H1 → Q vs H1) :
    ∃ G env f, EnvOk (rc X) G H env σ f ∧ AtOs (rc X) W (Fs env) G H f σ Q := tS_bndOs h fun G1 env1 f1 evs vs H1 e hl q => by
  cases z : parL is evs env1 with
  | none => rw [z] at q; exact q.elim
  | some e1 =>
    rw [z] at q
    obtain ⟨f2, k2, s2⟩ := par_puts e hl z
    exact w vs H1 (hl.trans (parL_len z)) (q _ G1 H1 f2 s2 k2 (setL_kp hp))
theorem ds_par2 {px py pt : Pos} {kt k2 : Nat} {pt2 : Pos} (hc : X.calm = true) (hN : X.N.Nodup) (hi : X.N[i]? = some x) (hj : X.N[j]? = some y) (hij : i ≠ j) (hx : X.env.scope.names.lookup x = some .local) (hy : X.env.scope.names.lookup y = some .local)
    (hp : ∀ k ∈ [i, j], Pr k = false) (ha : DOs X W [a, b] Fs) (hw : swappedStores [.Tuple [.Name x px, .Name y py] kt pt] (.Tuple [a, b] k2 pt2) X.env = pure (some [x, y]))
    (hs : swapsWithSole [.Tuple [.Name x px, .Name y py] kt pt] (.Tuple [a, b] k2 pt2) pos.line X.env = pure false := by rfl) :
    DS X W Pr (.Assign [.Tuple [.Name x px, .Name y py] kt pt] (.Tuple [a, b] k2 pt2) pos) (parN [i, j] Fs) :=
  PS.imp (ps_par hc hN hi hj hij hx hy ha hw hs) fun D σ H h => par_end hp h fun vs H1 hl q => by
    match vs, hl with
    | [u, v], _ => exact ⟨u, v, rfl, q⟩
theorem ds_par3 {px py pz pt : Pos} {kt k2 : Nat} {pt2 : Pos} (hc : X.calm = true) (hN : X.N.Nodup) (hi : X.N[i]? = some x) (hj : X.N[j]? = some y) (hl : X.N[l]? = some z) (hij : i ≠ j) (hil : i ≠ l) (hjl : j ≠ l)
    (hx : X.env.scope.names.lookup x = some .local) (hy : X.env.scope.names.lookup y = some .local) (hz : X.env.scope.names.lookup z = some .local)
    (hp : ∀ k ∈ [i, j, l], Pr k = false) (ha : DOs X W [a, b, c] Fs) (hw : swappedStores [.Tuple [.Name x px, .Name y py, .Name z pz] kt pt] (.Tuple [a, b, c] k2 pt2) X.env = pure (some [x, y, z]))
    (hs : swapsWithSole [.Tuple [.Name x px, .Name y py, .Name z pz] kt pt] (.Tuple [a, b, c] k2 pt2) pos.line X.env = pure false := by rfl) :
    DS X W Pr (.Assign [.Tuple [.Name x px, .Name y py, .Name z pz] kt pt] (.Tuple [a, b, c] k2 pt2) pos) (parN [i, j, l] Fs) :=
  PS.imp (ps_par3 hc hN hi hj hl hij hil hjl hx hy hz ha hw hs) fun D σ H h => par_end hp h fun vs H1 hl q => by
    match vs, hl with
    | [u, v, w], _ => exact ⟨u, v, w, rfl, q⟩
/-- through a tuple object: names of any kind -/
def tNs (is : List Nat) : TGs := fun vs σ H Q => vs.length = is.length ∧ Q (setL is vs σ) H
def DNs (X : Cx) (tgs : List Expr) (is : List Nat) : Prop := PGs X tgs (tNs is)
theorem dns_nil : DNs X [] [] := PGs.imp pgs_nil fun vs σ H Q ⟨h, q⟩ => by
  cases vs with
  | nil => exact ⟨rfl, q⟩
  | cons _ _ => cases h
theorem dns_cons {es : List Expr} {is : List Nat} {px : Pos} (hN : X.N.Nodup) (hi : X.N[i]? = some x) (hx : Loc X.env.scope x) (hr : DNs X es is) (hf : X.fn x = true ∨ X.env.scope.names.lookup x = some .local := by first | exact .inl rfl | exact .inr rfl | assumption)
    (hs : (assignEach (.Name x px :: es) X.env).map (·.2) = assign (.Name x px) X.env :: (assignEach es X.env).map (·.2) := by rfl) : DNs X (.Name x px :: es) (i :: is) :=
  PGs.imp (pgs_cons (pg_name hN hi hx hf) hr hs) fun vs σ H Q ⟨h, q⟩ => by
    cases vs with
    | nil => cases h
    | cons v r => exact ⟨v, r, rfl, by simpa using h, q⟩
theorem ds_parT {tgs es : List Expr} {is : List Nat} {n kt k2 : Nat} {pt pt2 : Pos} (hc : X.calm = true) (hg : DNs X tgs is) (hp : ∀ k ∈ is, Pr k = false) (ha : DOs X W es Fs) (hl : is.length = n) (hz : decide (n ≤ 1000) = true)
    (hn : (assignEach tgs X.env).length = n := by rfl) (hst : (assignEach tgs X.env).findIdx? (·.1) = none := by rfl)
    (hs : swapsWithSole [.Tuple tgs kt pt] (.Tuple es k2 pt2) pos.line X.env = pure false := by rfl) (hw : swappedStores [.Tuple tgs kt pt] (.Tuple es k2 pt2) X.env = pure none := by rfl)
    (h1 : (assignEach [.Tuple tgs kt pt] X.env).map (·.2) = [assign (.Tuple tgs kt pt) X.env] := by rfl) :
    DS X W Pr (.Assign [.Tuple tgs kt pt] (.Tuple es k2 pt2) pos) (parN is Fs) :=
  PS.imp (ps_asg (pe_tup ha) (pg_tup hc hg hn hst) hs hw h1) fun D σ H h => tS_bndOs h fun G1 env1 f1 evs vs H1 e hlen q => by
    cases z : parL is evs env1 with
    | none => rw [z] at q; exact q.elim
    | some e1 =>
      rw [z] at q
      obtain ⟨f2, k2, s2⟩ := par_puts e hlen z
      have ln : vs.length = is.length := hlen.trans (parL_len z)
      have small := of_decide_eq_true hz
      refine ⟨by rw [sizeLine_eq]; omega, fun p hp1 => ⟨p, vs, rfl, .inl (.inl upd_same), by omega, ln, ?_⟩⟩
      have gp : G1 p = none := by
        cases y : G1 p with
        | none => rfl
        | some u => rw [k2.sub _ _ y] at hp1; cases hp1
      have fp : p ∉ f2 := fun y => by
        obtain ⟨u, hu, _⟩ := k2.sl.there p y
        rw [hp1] at hu; cases hu
      have k3 := k2.beside gp fp (o := .tup vs) (.free hp1)
      have s3 : Stp G1 H1 f1 G1 (upd H1 p (.tup vs)) f2 := by
        refine ⟨.refl G1, fun b u y _ _ => ?_, fun b u y => .inl y, fun b hb => s2.own b hb⟩
        rw [upd_ne (ne_of_none y hp1)]
        exact y
      exact q _ G1 _ f2 s3 k3 (setL_kp hp)
end
end DL

namespace DL
open PySem PySem.Spec PyProof.Rows L2 LamX
abbrev nil0 : M (List D) := fun e => .ok [] e
abbrev nilX : M (List Arg) := fun e => .ok [] e
abbrev nilO : M (List EV) := fun e => .ok [] e
abbrev noneP : M (Option Int) := fun e => .ok none e
abbrev trueT : M Bool := fun e => .ok true e
abbrev nilG : TgsF := fun ds e => if ds.isEmpty then some e else none
theorem units65 {k : Nat} {A : Around} (r : Room k A) : A.units + 65 < cLine := by
  have := r.un
  omega
theorem lookup_mem2 {α β : Type} [BEq α] [LawfulBEq α] {a : α} {b : β} : ∀ {l : List (α × β)}, l.lookup a = some b → (a, b) ∈ l
  | [], h => by cases h
  | (c, d) :: r, h => by
    have h2 : (match a == c with | true => some d | false => r.lookup a) = some b := h
    cases q : (a == c) with
    | true =>
      rw [q] at h2
      have e : d = b := Option.some.inj h2
      rw [LawfulBEq.eq_of_beq q, e]
      exact List.mem_cons_self ..
    | false =>
      rw [q] at h2
      exact List.mem_cons_of_mem _ (lookup_mem2 h2)
section
variable {c : HK} {K : PySem.W.Frag} {mg : Str → Option Value} {base : Heap}
theorem Cfx.exmT (C : Cfx c K mg base) {y : Str} {l : List (Str × Bool)} (gy : .glo y ∈ c.fa) (h : ∀ p ∈ l, He.Fa.glo p.1 ∈ c.fa ∧ He.Fa.exm p.1 y p.2 ∈ c.fa) : ∀ x b, l.lookup x = some b → ∀ D, mg x = some (.ref D) → PySem.W.exmOne K (.ref D) (.ref (He.ga K y)) = some b := fun x b hb D hD => by
  obtain ⟨h1, h2⟩ := h _ (lookup_mem2 hb)
  exact C.exm h1 gy h2 hD (C.glo gy)
theorem Cfx.xtab {X : Cx} {lo : List ((Str × Str) × Bool)} {lt : List ((Str × String) × Bool)} (C : Cfx c X.K X.mg base) (h1 : ∀ p ∈ lo, He.Fa.glo p.1.1 ∈ c.fa ∧ He.Fa.glo p.1.2 ∈ c.fa ∧ Ck.exc p.1.1 ∈ c.ck ∧ Ck.kit p.1.1 p.1.2 p.2 ∈ c.ck)
    (h2 : ∀ p ∈ lt, He.Fa.glo p.1.1 ∈ c.fa ∧ Ck.exc p.1.1 ∈ c.ck ∧ Ck.kitT p.1.1 p.1.2 p.2 ∈ c.ck) : XTabOk X ⟨fun c d => lo.lookup (c, d), fun c n => lt.lookup (c, n)⟩ := by
  constructor
  · intro a a' b hb D D' hD hD'
    obtain ⟨g1, g2, g3, g4⟩ := h1 _ (lookup_mem2 hb)
    have e := (C.glo g1).symm.trans hD
    cases e
    have e := (C.glo g2).symm.trans hD'
    cases e
    exact ⟨Ck.excC (C.ckx g3), of_decide_eq_true (C.ckx g4)⟩
  · intro a n b hb D hD
    obtain ⟨g1, g3, g4⟩ := h2 _ (lookup_mem2 hb)
    have e := (C.glo g1).symm.trans hD
    cases e
    exact ⟨Ck.excC (C.ckx g3), of_decide_eq_true (C.ckx g4)⟩
end
theorem FunD.kbd {R : RC} {x qual : Str} {params : Arguments} {body : List Stmt} {scope : Scope} {f : Addr} {fd : FuncData} {ps : List Str} {n : Nat} {ks : List Str} {g : List Value → List Value → List Value} {gV : List V → List V → List V} {gD : List D → List D → List D} (F : FunD R.K x qual params body scope [] [] f fd)
    (h : ∀ (kV doc pm : Value) (an : Option Addr) (cdv ct : Value) (us ws : List Value), us.length = n → ws.length = ks.length → bindArgs (PySem.W.fnOf x qual params body scope .none kV doc pm an cdv ct) ⟨us, ks.zip ws⟩ = pure (ps.zip (g us ws)))
    (h1 : ∀ {vs : List V} {us : List Value} {zs : List V} {ws : List Value}, Vals vs us → Vals zs ws → Vals (gV vs zs) (g us ws)) (h2 : ∀ {G : Hp} {ds es : List D} {vs zs : List V}, Reps R G ds vs → Reps R G es zs → Reps R G (gD ds es) (gV vs zs)) : KBd R fd ps n ks g gV gD := by
  obtain ⟨oc, od, dV, kV, doc, pm, an, cdv, ct, osl, rfl, lk, hcd, hD, hK⟩ := F.ex
  rcases hD with ⟨_, rfl⟩ | ⟨e, _⟩
  · exact ⟨fun s us ws _ l1 l2 => .of_eq (h kV doc pm an cdv ct us ws l1 l2), h1, h2⟩
  · exact absurd rfl e
/-- the keywords' values by places -/
def permL {α : Type} (p : List Nat) (as bs : List α) : List α := as ++ p.filterMap fun i => bs[i]?
theorem permL_vals (p : List Nat) {vs : List V} {us : List Value} {zs : List V} {ws : List Value} (a : Vals vs us) (b : Vals zs ws) : Vals (permL p vs zs) (permL p us ws) := by
  unfold permL
  refine a.append ?_
  induction p with
  | nil => exact .nil
  | cons i p ih =>
    rw [List.filterMap_cons, List.filterMap_cons]
    cases q : zs[i]? with
    | none =>
      have z : ws[i]? = none := by
        rw [List.getElem?_eq_none_iff] at q ⊢
        rw [← b.length]
        exact q
      rw [z]
      exact ih
    | some v =>
      obtain ⟨u, hu, ru⟩ := b.get q
      rw [hu]
      exact .cons ru ih
theorem permL_reps {R : RC} {G : Hp} (p : List Nat) {ds es : List D} {vs zs : List V} (a : Reps R G ds vs) (b : Reps R G es zs) : Reps R G (permL p ds es) (permL p vs zs) := by
  unfold permL
  refine a.append ?_
  induction p with
  | nil => exact rfl
  | cons i p ih =>
    rw [List.filterMap_cons, List.filterMap_cons]
    cases q : es[i]? with
    | none =>
      have z : zs[i]? = none := by
        rw [List.getElem?_eq_none_iff] at q ⊢
        rw [← b.length]
        exact q
      rw [z]
      exact ih
    | some d =>
      obtain ⟨v, hv, rv⟩ := b.get q
      rw [hv]
      exact ⟨v, _, rfl, rv, ih⟩
section
variable [LT] {X : Cx} {W : WX} {k n : Nat} {f C : Addr} {fd : FuncData} {ps : List Str} {S : List EV → Out EV} {dvs : List V} {ds : List Value} {dd : List D} {x c : Str} {p pos : Pos}
theorem do_callN {es : List Expr} {e : Expr} {Fx : M (List Arg)} (F : FnG X.prog X.w X.K X.mg X.base k f fd ps S) (hn : ps.length = n) (hgd : X.A.guards = some []) (hr : Room k X.A) (hg : Gl X x) (hm : X.mg x = some (.ref f)) (hk : PySem.W.keepIn X.K (.ref f) = true) (hb : Binds X.K fd ps ds) (hd : Vals dvs ds)
    (hdd : ∀ G, Reps (rc X) G dd dvs) (hx : ∀ σ, PassesAt (CX X.prog X.w) X σ (WEat W σ)) (ha : DX X W (e :: es) Fx) (hdb : (x == ("__debug__" : Str)) = false := by decide)
    (he : starEach (e :: es) X.env = (false, eval e X.env) :: starEach es X.env := by rfl) (hpl : (backTo pos (starEach es X.env)).any (·.1) = false := by rfl) : DO X W (.Call (.Name x p) (e :: es) [] pos) (callF n S dd Fx) := by
  subst hn
  exact do_call F hgd hr hg hm hk hb hd hdd hx ha hdb he hpl
theorem do_callN0 (F : FnG X.prog X.w X.K X.mg X.base k f fd ps S) (hn : ps.length = n) (hgd : X.A.guards = some []) (hr : Room k X.A) (hg : Gl X x) (hm : X.mg x = some (.ref f)) (hk : PySem.W.keepIn X.K (.ref f) = true) (hb : Binds X.K fd ps ds) (hd : Vals dvs ds)
    (hdd : ∀ G, Reps (rc X) G dd dvs) (hx : ∀ σ, PassesAt (CX X.prog X.w) X σ (WEat W σ)) (hdb : (x == ("__debug__" : Str)) = false := by decide) : DO X W (.Call (.Name x p) [] [] pos) (callF n S dd fun e => .ok [] e) := by
  subst hn
  exact do_call0 F hgd hr hg hm hk hb hd hdd hx hdb
theorem do_callNK {n m np : Nat} {ks : List Str} {g : List Value → List Value → List Value} {gV : List V → List V → List V} {gD : List D → List D → List D} {es : List Expr} {e : Expr} {kws : List Keyword} {Fs Fk : M (List D)}
    (F : FnG X.prog X.w X.K X.mg X.base k f fd ps S) (hn : ps.length = np) (hm1 : ks.length = m) (hgd : X.A.guards = some []) (hr : Room k X.A) (hg : Gl X x) (hm : X.mg x = some (.ref f)) (hk : PySem.W.keepIn X.K (.ref f) = true) (hb : KBd (rc X) fd ps n ks g gV gD)
    (hx : ∀ σ, PassesAt (CX X.prog X.w) X σ (WEat W σ)) (ha : DAs X W (e :: es) Fs) (hkw : DK X W kws Fk) (hall : (backToKw pos (keywordEach kws X.env)).all (·.1.isSome) = true := by rfl) (hks : (backToKw pos (keywordEach kws X.env)).filterMap (·.1) = ks := by rfl)
    (hdb : (x == ("__debug__" : Str)) = false := by decide) (he : starEach (e :: es) X.env = (false, eval e X.env) :: starEach es X.env := by rfl)
    (hpl : ((backTo pos (starEach (e :: es) X.env)).any (·.1) || (backToKw pos (keywordEach kws X.env)).any (·.1.isNone)) = false := by rfl) : DO X W (.Call (.Name x p) (e :: es) kws pos) (callK n m np S gD Fs Fk) := by
  subst hn hm1
  exact do_callK F hgd hr hg hm hk hb hx ha hkw hall hks hdb he hpl
theorem do_callNK0 {m np : Nat} {ks : List Str} {g : List Value → List Value → List Value} {gV : List V → List V → List V} {gD : List D → List D → List D} {kws : List Keyword} {Fk : M (List D)}
    (F : FnG X.prog X.w X.K X.mg X.base k f fd ps S) (hn : ps.length = np) (hm1 : ks.length = m) (hgd : X.A.guards = some []) (hr : Room k X.A) (hg : Gl X x) (hm : X.mg x = some (.ref f)) (hk : PySem.W.keepIn X.K (.ref f) = true) (hb : KBd (rc X) fd ps 0 ks g gV gD)
    (hx : ∀ σ, PassesAt (CX X.prog X.w) X σ (WEat W σ)) (hkw : DK X W kws Fk) (hall : (backToKw pos (keywordEach kws X.env)).all (·.1.isSome) = true := by rfl) (hks : (backToKw pos (keywordEach kws X.env)).filterMap (·.1) = ks := by rfl)
    (hdb : (x == ("__debug__" : Str)) = false := by decide)
    (hpl : ((backTo pos (starEach [] X.env)).any (·.1) || (backToKw pos (keywordEach kws X.env)).any (·.1.isNone)) = false := by rfl) : DO X W (.Call (.Name x p) [] kws pos) (callK 0 m np S gD (fun e => .ok [] e) Fk) := by
  subst hn hm1
  exact do_callK0 F hgd hr hg hm hk hb hx hkw hall hks hdb hpl
theorem do_makeN {es : List Expr} {e : Expr} {Fx : M (List Arg)} (M : Mk X.K C f) (F : FnG X.prog X.w X.K X.mg X.base k f fd ps S) (hn : ps.length = n) (hgd : X.A.guards = some []) (hr : Room (k + 1) X.A) (hg : Gl X c) (hm : X.mg c = some (.ref C)) (hb : Binds X.K fd ps ds) (hd : Vals dvs ds)
    (hdd : ∀ G, Reps (rc X) G dd dvs) (hx : ∀ σ, PassesAt (CX X.prog X.w) X σ (WEat W σ)) (ha : DX X W (e :: es) Fx) (hdb : (c == ("__debug__" : Str)) = false := by decide)
    (he : starEach (e :: es) X.env = (false, eval e X.env) :: starEach es X.env := by rfl) (hpl : (backTo pos (starEach es X.env)).any (·.1) = false := by rfl) : DO X W (.Call (.Name c p) (e :: es) [] pos) (makeF c n S dd Fx) := by
  subst hn
  exact do_make M F hgd hr hg hm hb hd hdd hx ha hdb he hpl
end
section
variable [LT] {X : Cx} {W : WX} {pos : Pos} {elt tg iter : Expr} {ifs : List Expr} {scope : Scope} {own : List (Str × Nat)} {vs : List Nat} {Fi : M (List D)} {t : TgF} {T : M Bool} {Fe : M D}
theorem de_lcN (hv : own.map (·.2) = vs) (hc : X.calm = true) (hN : X.N.Nodup) (hi : DI X W tg iter Fi) (ok : BlkOk X.N X.env.scope scope own)
    (hg : ∀ (s : Shared) (H : Hp) (C : Addr) (cl : List (Str × Addr)) (fp : List Addr), DG (X.blk s H scope (compEnvC scope cl C X.env) fp) (prOf vs) tg t)
    (ht : ∀ (s : Shared) (H : Hp) (C : Addr) (cl : List (Str × Addr)) (fp : List Addr), DTs (X.blk s H scope (compEnvC scope cl C X.env) fp) Wno ifs T)
    (he : ∀ (s : Shared) (H : Hp) (C : Addr) (cl : List (Str × Addr)) (fp : List Addr), DE (X.blk s H scope (compEnvC scope cl C X.env) fp) Wno elt Fe) (hs : ∀ x, foldedSetIterable iter X.env x = pure x := by intro _; rfl) :
    DE X W (.ListComp elt [⟨tg, iter, ifs, 0⟩] scope pos) (lstM (bnd Fi (lcB vs t T Fe))) := by
  subst hv
  exact de_lc hc hN hi ok hg ht he hs
theorem do_lcN (hv : own.map (·.2) = vs) (hc : X.calm = true) (hN : X.N.Nodup) (hi : DI X W tg iter Fi) (ok : BlkOk X.N X.env.scope scope own)
    (hg : ∀ (s : Shared) (H : Hp) (C : Addr) (cl : List (Str × Addr)) (fp : List Addr), DG (X.blk s H scope (compEnvC scope cl C X.env) fp) (prOf vs) tg t)
    (ht : ∀ (s : Shared) (H : Hp) (C : Addr) (cl : List (Str × Addr)) (fp : List Addr), DTs (X.blk s H scope (compEnvC scope cl C X.env) fp) Wno ifs T)
    (he : ∀ (s : Shared) (H : Hp) (C : Addr) (cl : List (Str × Addr)) (fp : List Addr), DE (X.blk s H scope (compEnvC scope cl C X.env) fp) Wno elt Fe) (hs : ∀ x, foldedSetIterable iter X.env x = pure x := by intro _; rfl) :
    DO X W (.ListComp elt [⟨tg, iter, ifs, 0⟩] scope pos) (lstO (bnd Fi (lcB vs t T Fe))) := by
  subst hv
  exact do_lc hc hN hi ok hg ht he hs
end
end DL

namespace DL
open PySem PySem.Spec PyProof.Rows L2
variable [LT]
section
variable {X : Cx} {W : WX} {Pr : Nat → Bool} {elt tg iter : Expr} {ifs : List Expr} {scope : Scope} {own : List (Str × Nat)} {Fi : M (List D)} {t : TgF} {T : M Bool} {Fe : M D} {vs : List Nat} {pos spos py : Pos} {y : Str} {i : Nat}
/-- a comprehension's function gives HandS's reading -/
theorem lc_tells {wi : TI} (hw : wi = tI (rc X) W Fi) {σ : L2.St} {H : Hp} {Q : VK} (h : tM (rc X) W (Rep (rc X)) (lstM (bnd Fi (lcB vs t T Fe))) σ H Q) :
    tLc wi (tG (rc X) (prOf vs) t) (tM (rc X) Wno PB T) (tM (rc X) Wno (Rep (rc X)) Fe) vs σ H Q := by
  subst hw
  have h : tM (rc X) W (Rep (rc X)) (bnd Fi fun ds e => (lcB vs t T Fe ds e).bind fun ds e => .ok (.lst ds) e) σ H Q := by
    obtain ⟨G, env, f, e, q⟩ := h
    refine ⟨G, env, f, e, ?_⟩
    have q : At (rc X) W (Rep (rc X)) (((Fi env).bind (lcB vs t T Fe)).bind fun ds e => .ok (.lst ds) e) G H f σ Q := q
    show At (rc X) W (Rep (rc X)) ((Fi env).bind fun ds e => (lcB vs t T Fe ds e).bind fun ds e => .ok (.lst ds) e) G H f σ Q
    cases z : Fi env with
    | ok a e => rw [z] at q; exact q
    | ex x e => rw [z] at q; exact q
    | no => rw [z] at q; exact q
  refine tM_then (P1 := fun G ds (J : It) => Walk (rc X) G J ds) h fun G1 env1 f1 ds J H1 e w q => fun D hD => ?_
  exact lc_read (R := rc X) e w (fun i => prOf_in) (lc_end q lcB_ex) hD
theorem lc_tellsO {wi : TI} (hw : wi = tI (rc X) W Fi) {σ : L2.St} {H : Hp} {Q : VK} (h : tO (rc X) W (lstO (bnd Fi (lcB vs t T Fe))) σ H Q) :
    tLc wi (tG (rc X) (prOf vs) t) (tM (rc X) Wno PB T) (tM (rc X) Wno (Rep (rc X)) Fe) vs σ H Q := by
  subst hw
  have h : tO (rc X) W (bnd Fi fun ds e => (lcB vs t T Fe ds e).bind fun ds e => .ok (.ol (ds.map .v)) e) σ H Q := by
    obtain ⟨G, env, f, e, q⟩ := h
    refine ⟨G, env, f, e, ?_⟩
    have q : AtO (rc X) W (((Fi env).bind (lcB vs t T Fe)).bind fun ds e => .ok (.ol (ds.map .v)) e) G H f σ Q := q
    show AtO (rc X) W ((Fi env).bind fun ds e => (lcB vs t T Fe ds e).bind fun ds e => .ok (.ol (ds.map .v)) e) G H f σ Q
    cases z : Fi env with
    | ok a e => rw [z] at q; exact q
    | ex x e => rw [z] at q; exact q
    | no => rw [z] at q; exact q
  refine tO_bind (P1 := fun G ds (J : It) => Walk (rc X) G J ds) h fun G1 env1 f1 ds J H1 e w q => fun D hD => ?_
  exact lc_read (R := rc X) e w (fun i => prOf_in) (lc_endO q lcB_ex) hD
theorem ds_setLc (hv : own.map (·.2) = vs) (hc : X.calm = true) (hN : X.N.Nodup) (hy : X.N[i]? = some y) (hyl : X.env.scope.names.lookup y = some .local) (hp : Pr i = false)
    (hsw : swapsWith (.ListComp elt [⟨tg, iter, ifs, 0⟩] scope pos) (some (.Name y py)) spos.line X.env = pure true) (hi : DI X W tg iter Fi) (ok : BlkOk X.N X.env.scope scope own)
    (hg : ∀ (s : Shared) (H : Hp) (C : Addr) (cl : List (Str × Addr)) (fp : List Addr), DG (X.blk s H scope (compEnvC scope cl C X.env) fp) (prOf vs) tg t)
    (ht : ∀ (s : Shared) (H : Hp) (C : Addr) (cl : List (Str × Addr)) (fp : List Addr), DTs (X.blk s H scope (compEnvC scope cl C X.env) fp) Wno ifs T)
    (he : ∀ (s : Shared) (H : Hp) (C : Addr) (cl : List (Str × Addr)) (fp : List Addr), DE (X.blk s H scope (compEnvC scope cl C X.env) fp) Wno elt Fe) (hs : ∀ x, foldedSetIterable iter X.env x = pure x := by intro _; rfl) :
    DS X W Pr (.Assign [.Name y py] (.ListComp elt [⟨tg, iter, ifs, 0⟩] scope pos) spos) (setS i (lstM (bnd Fi (lcB vs t T Fe)))) := by
  subst hv
  exact PS.imp (ps_setLc (g := tG (rc X) (prOf (own.map fun (p : Str × Nat) => p.2)) t) (tt := tM (rc X) Wno PB T) (te := tM (rc X) Wno (Rep (rc X)) Fe) hc hN hy hyl hsw hi ok hg ht he hs) fun D σ H h => lc_tells rfl (tS_bnd (P := Rep (rc X)) h fun G1 env1 f1 d v H1 e p q => by
    cases z : put i d env1 with
    | none => rw [z] at q; exact q.elim
    | some e1 =>
      rw [z] at q
      obtain ⟨f', e', s'⟩ := put_ok e z p
      exact q _ G1 H1 f' s' e' (Kp.set hp))
theorem ds_setLcO (hv : own.map (·.2) = vs) (hc : X.calm = true) (hN : X.N.Nodup) (hy : X.N[i]? = some y) (hyl : X.env.scope.names.lookup y = some .local) (hp : Pr i = false)
    (hsw : swapsWith (.ListComp elt [⟨tg, iter, ifs, 0⟩] scope pos) (some (.Name y py)) spos.line X.env = pure true) (hi : DI X W tg iter Fi) (ok : BlkOk X.N X.env.scope scope own)
    (hg : ∀ (s : Shared) (H : Hp) (C : Addr) (cl : List (Str × Addr)) (fp : List Addr), DG (X.blk s H scope (compEnvC scope cl C X.env) fp) (prOf vs) tg t)
    (ht : ∀ (s : Shared) (H : Hp) (C : Addr) (cl : List (Str × Addr)) (fp : List Addr), DTs (X.blk s H scope (compEnvC scope cl C X.env) fp) Wno ifs T)
    (he : ∀ (s : Shared) (H : Hp) (C : Addr) (cl : List (Str × Addr)) (fp : List Addr), DE (X.blk s H scope (compEnvC scope cl C X.env) fp) Wno elt Fe) (hs : ∀ x, foldedSetIterable iter X.env x = pure x := by intro _; rfl) :
    DS X W Pr (.Assign [.Name y py] (.ListComp elt [⟨tg, iter, ifs, 0⟩] scope pos) spos) (setO i (lstO (bnd Fi (lcB vs t T Fe)))) := by
  subst hv
  exact PS.imp (ps_setLc (g := tG (rc X) (prOf (own.map fun (p : Str × Nat) => p.2)) t) (tt := tM (rc X) Wno PB T) (te := tM (rc X) Wno (Rep (rc X)) Fe) hc hN hy hyl hsw hi ok hg ht he hs) fun D σ H h => lc_tellsO rfl (tS_bndO h fun G1 env1 f1 ev v H1 e q => by
    cases z : putE i ev env1 with
    | none => rw [z] at q; exact q.elim
    | some e1 =>
      rw [z] at q
      obtain ⟨f', e', s'⟩ := putE_ok e z
      exact q _ G1 H1 f' s' e' (Kp.set hp))
theorem lk_ne {β : Type} {k nm : Str} {v : β} {l : List (Str × β)} (h : nm ≠ k) : List.lookup nm ((k, v) :: l) = List.lookup nm l := by
  simp [List.lookup, beq_false_of_ne h]
/-- the handlers of a body that is one try -/
def hdsOf : List Stmt → List ExceptHandler
  | .Try _ h _ _ _ :: _ => h
  | _ => []
end
end DL

/-! ### what a function of slots ends in, backwards -/
namespace DL
open PySem PyProof.Rows L2
def Out.wp {α : Type} (o : Out α) (Q : α → List EV → Prop) (X : XV → List EV → Prop) : Prop := match o with
  | .ok a e => Q a e
  | .ex x e => X x e
  | .no => False
/-- the ends of a statement -/
structure Pe where
  nx : List EV → Prop
  rt : EV → List EV → Prop
  bk : List EV → Prop
  ct : List EV → Prop
  ex : XV → List EV → Prop
def SO.wp (o : SO) (P : Pe) : Prop := match o with
  | .nx e => P.nx e
  | .rt r e => P.rt r e
  | .bk e => P.bk e
  | .ct e => P.ct e
  | .ex x e => P.ex x e
  | .no => False
def wpO {α : Type} (o : Option α) (Q : α → Prop) : Prop := ∃ a, o = some a ∧ Q a
section
variable {α β : Type} {Q : α → List EV → Prop} {X : XV → List EV → Prop} {e : List EV}
@[simp] theorem wp_bnd {m : M α} {k : α → M β} {Q : β → List EV → Prop} : (bnd m k e).wp Q X = (m e).wp (fun a e1 => (k a e1).wp Q X) X := by
  unfold bnd
  cases m e <;> rfl
@[simp] theorem wp_ofO {o : Option α} : (ofO o e).wp Q X = wpO o fun a => Q a e := by
  cases o with
  | none => exact propext ⟨fun z => z.elim, fun ⟨_, z, _⟩ => by cases z⟩
  | some a => exact propext ⟨fun z => ⟨a, rfl, z⟩, fun ⟨_, z, q⟩ => by cases z; exact q⟩
@[simp] theorem wp_cst {d : D} {Q : D → List EV → Prop} : (cst d e).wp Q X = Q d e := rfl
/-- a slot with plain data -/
def wpV (o : Option EV) (Q : D → Prop) : Prop := match o with
  | some (.v d) => Q d
  | _ => False
@[simp] theorem wpV_v {d : D} {Q : D → Prop} : wpV (some (.v d)) Q = Q d := rfl
@[simp] theorem wp_rd {i : Nat} {Q : D → List EV → Prop} : (rd i e).wp Q X = wpV e[i]? fun d => Q d e := by
  unfold rd wpV
  cases e[i]? with
  | none => rfl
  | some ev => cases ev <;> rfl
def wpE (o : Option EV) (Q : EV → Prop) : Prop := match o with
  | some ev => Q ev
  | none => False
@[simp] theorem wpE_v {ev : EV} {Q : EV → Prop} : wpE (some ev) Q = Q ev := rfl
@[simp] theorem wp_rdF {i : Nat} {Q : D → List EV → Prop} : (rdF i e).wp Q X = wpE e[i]? fun ev => wpO (toD ev) fun d => Q d (e.set i (.v d)) := by
  unfold rdF wpE
  cases e[i]? with
  | none => rfl
  | some ev =>
    dsimp only
    cases toD ev with
    | none => exact propext ⟨fun z => z.elim, fun ⟨_, z, _⟩ => by cases z⟩
    | some d => exact propext ⟨fun z => ⟨d, rfl, z⟩, fun ⟨_, z, q⟩ => by cases z; exact q⟩
variable {Fa Fb Fc : M D} {Qd : D → List EV → Prop} {g g' : D → D → Option D}
@[simp] theorem wp_bin2 : (bin2 g Fa Fb e).wp Qd X = (Fa e).wp (fun x e1 => (Fb e1).wp (fun y e2 => wpO (g x y) fun r => Qd r e2) X) X := by
  unfold bin2
  simp only [wp_bnd, wp_ofO]
@[simp] theorem wp_un1 {g : D → Option D} : (un1 g Fa e).wp Qd X = (Fa e).wp (fun x e1 => wpO (g x) fun r => Qd r e1) X := by
  unfold un1
  simp only [wp_bnd, wp_ofO]
@[simp] theorem wp_onL {g : List D → Option D} {Fs : M (List D)} : (onL g Fs e).wp Qd X = (Fs e).wp (fun x e1 => wpO (g x) fun r => Qd r e1) X := by
  unfold onL
  simp only [wp_bnd, wp_ofO]
@[simp] theorem wp_onI {g : List D → Option (List D)} {Fs : M (List D)} {Q : List D → List EV → Prop} : (onI g Fs e).wp Q X = (Fs e).wp (fun x e1 => wpO (g x) fun r => Q r e1) X := by
  unfold onI
  simp only [wp_bnd, wp_ofO]
@[simp] theorem wp_seqI {Q : List D → List EV → Prop} : (seqI Fa e).wp Q X = (Fa e).wp (fun x e1 => wpO (itemsOf x) fun r => Q r e1) X := by
  unfold seqI
  simp only [wp_bnd, wp_ofO]
@[simp] theorem wp_enI {Q : List D → List EV → Prop} : (enI Fa e).wp Q X = (Fa e).wp (fun x e1 => wpO ((itemsOf x).map enD) fun r => Q r e1) X := by
  unfold enI
  simp only [wp_bnd, wp_ofO]
@[simp] theorem wp_nil {Q : List α → List EV → Prop} : (Out.ok ([] : List α) e).wp Q X = Q [] e := rfl
@[simp] theorem wp_ok {a : α} : (Out.ok a e).wp Q X = Q a e := rfl
@[simp] theorem wp_ex {x : XV} : (Out.ex x e : Out α).wp Q X = X x e := rfl
@[simp] theorem wp_consM {Fs : M (List D)} {Q : List D → List EV → Prop} : (consM Fa Fs e).wp Q X = (Fa e).wp (fun x e1 => (Fs e1).wp (fun xs e2 => Q (x :: xs) e2) X) X := by
  unfold consM
  simp only [wp_bnd]
  rfl
@[simp] theorem wp_consD {Fs : M (List Arg)} {Q : List Arg → List EV → Prop} : (consD Fa Fs e).wp Q X = (Fa e).wp (fun x e1 => (Fs e1).wp (fun xs e2 => Q (.d x :: xs) e2) X) X := by
  unfold consD
  simp only [wp_bnd]
  rfl
@[simp] theorem wp_consI {i : Nat} {Fs : M (List Arg)} {Q : List Arg → List EV → Prop} : (consI i Fs e).wp Q X = wpE e[i]? fun ev => isOwn ev = true ∧ (Fs e).wp (fun xs e2 => Q (.io i :: xs) e2) X := by
  unfold consI wpE
  cases e[i]? with
  | none => rfl
  | some ev =>
    dsimp only
    by_cases h : isOwn ev = true
    · rw [if_pos h, wp_bnd]
      exact propext ⟨fun z => ⟨h, z⟩, fun z => z.2⟩
    · rw [if_neg h]
      exact propext ⟨fun z => z.elim, fun z => absurd z.1 h⟩
@[simp] theorem wp_consO {Fo : M EV} {Fs : M (List EV)} {Q : List EV → List EV → Prop} : (consO Fo Fs e).wp Q X = (Fo e).wp (fun x e1 => (Fs e1).wp (fun xs e2 => Q (x :: xs) e2) X) X := by
  unfold consO
  simp only [wp_bnd]
  rfl
@[simp] theorem wp_vM {Q : EV → List EV → Prop} : (vM Fa e).wp Q X = (Fa e).wp (fun x e1 => Q (.v x) e1) X := by
  unfold vM
  simp only [wp_bnd]
  rfl
@[simp] theorem wp_frzM {Fo : M EV} : (frzM Fo e).wp Qd X = (Fo e).wp (fun ev e1 => wpO (toD ev) fun d => Qd d e1) X := by
  unfold frzM
  simp only [wp_bnd, wp_ofO]
@[simp] theorem wp_ownL {Fs : M (List D)} {Q : EV → List EV → Prop} : (ownL Fs e).wp Q X = (Fs e).wp (fun ds e1 => ds.length ≤ 16777216 ∧ Q (.ol (ds.map .v)) e1) X := by
  unfold ownL
  rw [wp_bnd]
  congr 1
  funext ds e1
  by_cases h : ds.length ≤ 16777216
  · rw [if_pos h]
    exact propext ⟨fun z => ⟨h, z⟩, fun z => z.2⟩
  · rw [if_neg h]
    exact propext ⟨fun z => z.elim, fun z => absurd z.1 h⟩
@[simp] theorem wp_lstM {F : M (List D)} : (lstM F e).wp Qd X = (F e).wp (fun ds e1 => Qd (.lst ds) e1) X := by
  unfold lstM
  rw [wp_bnd]
  rfl
@[simp] theorem wp_lstO {F : M (List D)} {Q : EV → List EV → Prop} : (lstO F e).wp Q X = (F e).wp (fun ds e1 => Q (.ol (ds.map .v)) e1) X := by
  unfold lstO
  rw [wp_bnd]
  rfl
@[simp] theorem wp_asB {Q : Bool → List EV → Prop} : (asB Fa e).wp Q X = (Fa e).wp (fun d e1 => ∃ b, d = .bl b ∧ Q b e1) X := by
  unfold asB
  rw [wp_bnd]
  congr 1
  funext d e1
  cases d <;> first | (exact propext ⟨fun z => z.elim, fun ⟨_, z, _⟩ => by cases z⟩) | (exact propext ⟨fun z => ⟨_, rfl, z⟩, fun ⟨_, z, q⟩ => by cases z; exact q⟩)
@[simp] theorem wp_asI {Q : Option Int → List EV → Prop} : (asI Fa e).wp Q X = (Fa e).wp (fun d e1 => ∃ i, d = .int i ∧ Q (some i) e1) X := by
  unfold asI
  rw [wp_bnd]
  congr 1
  funext d e1
  cases d <;> first | (exact propext ⟨fun z => z.elim, fun ⟨_, z, _⟩ => by cases z⟩) | (exact propext ⟨fun z => ⟨_, rfl, z⟩, fun ⟨_, z, q⟩ => by cases z; exact q⟩)
@[simp] theorem wp_slM {Fl Fh : M (Option Int)} : (slM Fa Fl Fh e).wp Qd X = (Fa e).wp (fun x e1 => (Fl e1).wp (fun l e2 => (Fh e2).wp (fun h e3 => wpO (gSl x l h) fun r => Qd r e3) X) X) X := by
  unfold slM
  simp only [wp_bnd, wp_ofO]
@[simp] theorem wp_noneP {Q : Option Int → List EV → Prop} : (noneP e).wp Q X = Q none e := rfl
@[simp] theorem wp_andV : (andV Fa Fb e).wp Qd X = (Fa e).wp (fun x e1 => ∃ b, x = .bl b ∧ if b then (Fb e1).wp Qd X else Qd (.bl false) e1) X := by
  unfold andV
  rw [wp_bnd]
  congr 1
  funext d e1
  cases d with
  | bl b => cases b <;> exact propext ⟨fun z => ⟨_, rfl, z⟩, fun ⟨_, z, q⟩ => by cases z; exact q⟩
  | _ => exact propext ⟨fun z => z.elim, fun ⟨_, z, _⟩ => by cases z⟩
@[simp] theorem wp_orV : (orV Fa Fb e).wp Qd X = (Fa e).wp (fun x e1 => ∃ b, x = .bl b ∧ if b then Qd (.bl true) e1 else (Fb e1).wp Qd X) X := by
  unfold orV
  rw [wp_bnd]
  congr 1
  funext d e1
  cases d with
  | bl b => cases b <;> exact propext ⟨fun z => ⟨_, rfl, z⟩, fun ⟨_, z, q⟩ => by cases z; exact q⟩
  | _ => exact propext ⟨fun z => z.elim, fun ⟨_, z, _⟩ => by cases z⟩
variable {Ta Tb : M Bool} {Qb : Bool → List EV → Prop}
@[simp] theorem wp_trueT : (trueT e).wp Qb X = Qb true e := rfl
@[simp] theorem wp_notT : (notT Ta e).wp Qb X = (Ta e).wp (fun b e1 => Qb (!b) e1) X := by
  unfold notT
  rw [wp_bnd]
  rfl
@[simp] theorem wp_orT : (orT Ta Tb e).wp Qb X = (Ta e).wp (fun b e1 => if b then Qb true e1 else (Tb e1).wp Qb X) X := by
  unfold orT
  rw [wp_bnd]
  congr 1
  funext b e1
  cases b <;> rfl
@[simp] theorem wp_andT : (andT Ta Tb e).wp Qb X = (Ta e).wp (fun b e1 => if b then (Tb e1).wp Qb X else Qb false e1) X := by
  unfold andT
  rw [wp_bnd]
  congr 1
  funext b e1
  cases b <;> rfl
@[simp] theorem wp_ifE : (ifE Ta Fa Fb e).wp Qd X = (Ta e).wp (fun b e1 => if b then (Fa e1).wp Qd X else (Fb e1).wp Qd X) X := by
  unfold ifE
  rw [wp_bnd]
  congr 1
  funext b e1
  cases b <;> rfl
@[simp] theorem wp_chain : (chain g g' Fa Fb Fc e).wp Qd X = (Fa e).wp (fun x e1 => (Fb e1).wp (fun y e2 => wpO (g x y) fun k => ∃ b, k = .bl b ∧ if b then (Fc e2).wp (fun z e3 => wpO (g' y z) fun r => Qd r e3) X else Qd (.bl false) e2) X) X := by
  unfold chain
  simp only [wp_bnd, wp_ofO]
  congr 1
  funext x e1
  congr 1
  funext y e2
  congr 1
  funext k
  cases k with
  | bl b =>
    cases b
    · exact propext ⟨fun z => ⟨_, rfl, z⟩, fun ⟨_, z, q⟩ => by cases z; exact q⟩
    · simp only [wp_bnd, wp_ofO]
      exact propext ⟨fun z => ⟨_, rfl, z⟩, fun ⟨_, z, q⟩ => by cases z; exact q⟩
  | _ => exact propext ⟨fun z => z.elim, fun ⟨_, z, _⟩ => by cases z⟩
@[simp] theorem wp_one {Q : List D → List EV → Prop} : (one Fa e).wp Q X = (Fa e).wp (fun d e1 => Q [d] e1) X := by
  unfold one
  rw [wp_bnd]
  rfl
@[simp] theorem wp_rgL {Fs : M (List D)} : (rgL Fs e).wp Qd X = (Fs e).wp (fun ds e1 => wpO ((gRgV ds).map .lst) fun r => Qd r e1) X := by
  unfold rgL
  simp only [wp_bnd, wp_ofO]
/-! statements -/
variable {P : Pe} {F1 F2 : MS}
@[simp] theorem wp_seqS : (seqS F1 F2 e).wp P = (F1 e).wp ⟨fun e1 => (F2 e1).wp P, P.rt, P.bk, P.ct, P.ex⟩ := by
  unfold seqS
  cases F1 e <;> rfl
@[simp] theorem wp_bndS {m : M α} {k : α → MS} : (bndS m k e).wp P = (m e).wp (fun a e1 => (k a e1).wp P) P.ex := by
  unfold bndS
  cases m e <;> rfl
@[simp] theorem wp_ifS : (ifS Ta F1 F2 e).wp P = (Ta e).wp (fun b e1 => if b then (F1 e1).wp P else (F2 e1).wp P) P.ex := by
  unfold ifS
  rw [wp_bndS]
  congr 1
  funext b e1
  cases b <;> rfl
@[simp] theorem wp_nx : (SO.nx e).wp P = P.nx e := rfl
@[simp] theorem wp_bk : (SO.bk e).wp P = P.bk e := rfl
@[simp] theorem wp_ct : (SO.ct e).wp P = P.ct e := rfl
@[simp] theorem wp_setS {i : Nat} : (setS i Fa e).wp P = (Fa e).wp (fun d e1 => i < e1.length ∧ P.nx (e1.set i (.v d))) P.ex := by
  unfold setS
  rw [wp_bndS]
  congr 1
  funext d e1
  unfold put
  by_cases h : i < e1.length
  · rw [if_pos h]
    exact propext ⟨fun z => ⟨h, z⟩, fun z => z.2⟩
  · rw [if_neg h]
    exact propext ⟨fun z => z.elim, fun z => absurd z.1 h⟩
@[simp] theorem wp_setO {i : Nat} {Fo : M EV} : (setO i Fo e).wp P = (Fo e).wp (fun d e1 => i < e1.length ∧ P.nx (e1.set i d)) P.ex := by
  unfold setO
  rw [wp_bndS]
  congr 1
  funext d e1
  unfold putE
  by_cases h : i < e1.length
  · rw [if_pos h]
    exact propext ⟨fun z => ⟨h, z⟩, fun z => z.2⟩
  · rw [if_neg h]
    exact propext ⟨fun z => z.elim, fun z => absurd z.1 h⟩
@[simp] theorem wp_retS : (retS Fa e).wp P = (Fa e).wp (fun d e1 => P.rt (.v d) e1) P.ex := by
  unfold retS
  rw [wp_bndS]
  rfl
@[simp] theorem wp_retO {Fo : M EV} : (retO Fo e).wp P = (Fo e).wp (fun d e1 => P.rt d e1) P.ex := by
  unfold retO
  rw [wp_bndS]
  rfl
@[simp] theorem wp_dropS : (dropS Fa e).wp P = (Fa e).wp (fun d e1 => P.nx e1) P.ex := by
  unfold dropS
  rw [wp_bndS]
  rfl
@[simp] theorem wp_raiseS {x f : Str} : (raiseS x f Fa e).wp P = (Fa e).wp (fun d e1 => P.ex ⟨x, f, d⟩ e1) P.ex := by
  unfold raiseS
  rw [wp_bndS]
  rfl
@[simp] theorem wp_parN {is : List Nat} {Fs : M (List EV)} : (parN is Fs e).wp P = (Fs e).wp (fun evs e1 => wpO (parL is evs e1) P.nx) P.ex := by
  unfold parN
  rw [wp_bndS]
  congr 1
  funext evs e1
  cases parL is evs e1 with
  | none => exact propext ⟨fun z => z.elim, fun ⟨_, z, _⟩ => by cases z⟩
  | some a => exact propext ⟨fun z => ⟨a, rfl, z⟩, fun ⟨_, z, q⟩ => by cases z; exact q⟩
@[simp] theorem wp_forS {Fi : M (List D)} {t : TgF} {B : MS} : (forS Fi t B e).wp P = (Fi e).wp (fun ds e1 => (forM t B ds e1).wp P) P.ex := by
  unfold forS
  rw [wp_bndS]
@[simp] theorem wpO_some {a : α} {Q : α → Prop} : wpO (some a) Q = Q a := propext ⟨fun ⟨_, z, q⟩ => by cases z; exact q, fun z => ⟨a, rfl, z⟩⟩
@[simp] theorem wpO_if {c : Prop} [Decidable c] {a : α} {Q : α → Prop} : wpO (if c then some a else none) Q = (c ∧ Q a) := by
  by_cases h : c
  · rw [if_pos h, wpO_some]
    exact propext ⟨fun z => ⟨h, z⟩, fun z => z.2⟩
  · rw [if_neg h]
    exact propext ⟨fun ⟨_, z, _⟩ => (nomatch z), fun z => absurd z.1 h⟩
/-- own lists -/
@[simp] theorem wp_appS {i : Nat} : (appS i Fa e).wp P = wpO (getO i e) fun _ => (Fa e).wp (fun d e1 => wpO (getO i e1) fun ds => ds.length < 16777216 ∧ P.nx (putO i (ds ++ [d]) e1)) P.ex := by
  unfold appS
  cases getO i e with
  | none => exact propext ⟨fun z => z.elim, fun ⟨_, z, _⟩ => by cases z⟩
  | some ds0 =>
    rw [wpO_some]
    show SO.wp (bndS _ _ e) P = _
    rw [wp_bndS]
    congr 1
    funext d e1
    cases getO i e1 with
    | none => exact propext ⟨fun z => z.elim, fun ⟨_, z, _⟩ => by cases z⟩
    | some ds =>
      rw [wpO_some]
      show SO.wp (if ds.length < 16777216 then _ else _) P = _
      by_cases h : ds.length < 16777216
      · rw [if_pos h]
        exact propext ⟨fun z => ⟨h, z⟩, fun z => z.2⟩
      · rw [if_neg h]
        exact propext ⟨fun z => z.elim, fun z => absurd z.1 h⟩
@[simp] theorem wp_setIx {i : Nat} {Fe Fi : M D} : (setIx i Fe Fi e).wp P = (Fe e).wp (fun d e0 => wpO (getO i e0) fun _ => (Fi e0).wp (fun k e1 => wpO (getO i e1) fun ds => ∃ z, k = .int z ∧ wpO (ixN ds.length z) fun j => P.nx (putO i (ds.set j d) e1)) P.ex) P.ex := by
  unfold setIx
  rw [wp_bndS]
  congr 1
  funext d e0
  cases getO i e0 with
  | none => exact propext ⟨fun z => z.elim, fun ⟨_, z, _⟩ => by cases z⟩
  | some ds0 =>
    rw [wpO_some]
    show SO.wp (bndS _ _ e0) P = _
    rw [wp_bndS]
    congr 1
    funext k e1
    cases getO i e1 with
    | none => exact propext ⟨fun z => z.elim, fun ⟨_, z, _⟩ => by cases z⟩
    | some ds =>
      rw [wpO_some]
      cases k with
      | int z =>
        cases q : ixN ds.length z with
        | none =>
          simp only [q]
          exact propext ⟨fun w => w.elim, fun ⟨z2, z1, _, z3, _⟩ => by cases z1; rw [q] at z3; cases z3⟩
        | some j =>
          simp only [q]
          exact propext ⟨fun w => ⟨z, rfl, j, q, w⟩, fun ⟨z2, z1, j2, z3, w⟩ => by cases z1; rw [q] at z3; cases z3; exact w⟩
      | _ => exact propext ⟨fun z => z.elim, fun ⟨_, z, _⟩ => by cases z⟩
@[simp] theorem wp_pkIx {i : Nat} : (pkIx i Fb e).wp Qd X = wpO (getO i e) fun _ => (Fb e).wp (fun k e1 => wpO (getO i e1) fun ds => wpO (gIx (.lst ds) k) fun r => Qd r e1) X := by
  unfold pkIx
  cases getO i e with
  | none => exact propext ⟨fun z => z.elim, fun ⟨_, z, _⟩ => by cases z⟩
  | some ds0 =>
    rw [wpO_some]
    show Out.wp (bnd _ _ e) Qd X = _
    rw [wp_bnd]
    congr 1
    funext k e1
    cases getO i e1 with
    | none => exact propext ⟨fun z => z.elim, fun ⟨_, z, _⟩ => by cases z⟩
    | some ds => rw [wpO_some]; exact wp_ofO
end
end DL

namespace DL
open PySem PyProof.Rows L2
section
variable {α : Type} {Q Q' : α → List EV → Prop} {X X' : XV → List EV → Prop} {e : List EV} {P P' : Pe}
theorem Out.wp.mono {o : Out α} (h : o.wp Q X) (hq : ∀ a e, Q a e → Q' a e) (hx : ∀ x e, X x e → X' x e) : o.wp Q' X' := by
  cases o with
  | ok a e => exact hq a e h
  | ex x e => exact hx x e h
  | no => exact h
theorem SO.wp.mono {o : SO} (h : o.wp P) (h1 : ∀ e, P.nx e → P'.nx e) (h2 : ∀ r e, P.rt r e → P'.rt r e) (h3 : ∀ e, P.bk e → P'.bk e) (h4 : ∀ e, P.ct e → P'.ct e) (h5 : ∀ x e, P.ex x e → P'.ex x e) : o.wp P' := by
  cases o with
  | nx e => exact h1 e h
  | rt r e => exact h2 r e h
  | bk e => exact h3 e h
  | ct e => exact h4 e h
  | ex x e => exact h5 x e h
  | no => exact h
@[simp] theorem wp_fnS {n N : Nat} {Pr : Nat → Bool} {B : MS} {args : List EV} {Q : EV → List EV → Prop} : (fnS n N Pr B args).wp Q X = (B (args ++ List.replicate (N - n) .un)).wp
    ⟨fun e => Q (.v .non) (outs Pr 0 n e), fun r e => Q r (outs Pr 0 n e), fun _ => False, fun _ => False, fun x e => X x (outs Pr 0 n e)⟩ := by
  unfold fnS
  cases B (args ++ List.replicate (N - n) .un) <;> rfl
@[simp] theorem wp_callA {S : List EV → Out EV} {as : List Arg} {Q : EV → List EV → Prop} : (callA S as e).wp Q X = wpO (takeA as e) fun p => (S p.1).wp (fun r os => wpO (putA as os p.2) fun e2 => Q r e2) (fun x os => wpO (putA as os p.2) fun e2 => X x e2) := by
  unfold callA
  cases takeA as e with
  | none => exact propext ⟨fun z => z.elim, fun ⟨_, z, _⟩ => by cases z⟩
  | some p =>
    rw [wpO_some]
    obtain ⟨es, e1⟩ := p
    dsimp only
    cases S es with
    | no => rfl
    | ok r os =>
      dsimp only
      show _ = wpO (putA as os e1) fun e2 => Q r e2
      cases putA as os e1 with
      | none => exact propext ⟨fun z => z.elim, fun ⟨_, z, _⟩ => by cases z⟩
      | some e2 => rw [wpO_some]; rfl
    | ex r os =>
      dsimp only
      show _ = wpO (putA as os e1) fun e2 => X r e2
      cases putA as os e1 with
      | none => exact propext ⟨fun z => z.elim, fun ⟨_, z, _⟩ => by cases z⟩
      | some e2 => rw [wpO_some]; rfl
@[simp] theorem wp_callF {n : Nat} {S : List EV → Out EV} {dd : List D} {Fx : M (List Arg)} {Q : EV → List EV → Prop} : (callF n S dd Fx e).wp Q X = (Fx e).wp (fun as e1 => as.length + dd.length = n ∧ (callA S (as ++ dd.map .d) e1).wp Q X) X := by
  unfold callF
  rw [wp_bnd]
  congr 1
  funext as e1
  by_cases h : as.length + dd.length = n
  · rw [if_pos h]
    exact propext ⟨fun z => ⟨h, z⟩, fun z => z.2⟩
  · rw [if_neg h]
    exact propext ⟨fun z => z.elim, fun z => absurd z.1 h⟩
@[simp] theorem wp_callK {n m np : Nat} {S : List EV → Out EV} {gD : List D → List D → List D} {Fs Fk : M (List D)} {Q : EV → List EV → Prop} : (callK n m np S gD Fs Fk e).wp Q X =
    (Fs e).wp (fun ds e1 => (Fk e1).wp (fun es e2 => (ds.length = n ∧ es.length = m ∧ (gD ds es).length = np) ∧ (callA S ((gD ds es).map .d) e2).wp Q X) X) X := by
  unfold callK
  rw [wp_bnd]
  congr 1
  funext ds e1
  rw [wp_bnd]
  congr 1
  funext es e2
  by_cases h : ds.length = n ∧ es.length = m ∧ (gD ds es).length = np
  · rw [if_pos h]
    exact propext ⟨fun z => ⟨h, z⟩, fun z => z.2⟩
  · rw [if_neg h]
    exact propext ⟨fun z => z.elim, fun z => absurd z.1 h⟩
@[simp] theorem wp_makeF {c : Str} {n : Nat} {S : List EV → Out EV} {dd : List D} {Fx : M (List Arg)} {Q : EV → List EV → Prop} : (makeF c n S dd Fx e).wp Q X = (Fx e).wp (fun as e1 => as.length + dd.length + 1 = n ∧
    (callA S (.io 0 :: (as.map shA ++ dd.map .d)) (.oi c [] [] :: e1)).wp (fun r e2 => ∃ ev e3, r = .v .non ∧ e2 = ev :: e3 ∧ Q ev e3) (fun x e2 => ∃ ev e3, e2 = ev :: e3 ∧ X x e3)) X := by
  unfold makeF
  rw [wp_bnd]
  congr 1
  funext as e1
  by_cases h : as.length + dd.length + 1 = n
  · rw [if_pos h]
    cases callA S (.io 0 :: (as.map shA ++ dd.map .d)) (.oi c [] [] :: e1) with
    | no => exact propext ⟨fun z => z.elim, fun z => z.2⟩
    | ex x e2 =>
      cases e2 with
      | nil => exact propext ⟨fun z => z.elim, fun ⟨_, _, _, z, _⟩ => (nomatch z)⟩
      | cons ev e3 => exact propext ⟨fun z => ⟨h, ev, e3, rfl, z⟩, fun ⟨_, _, _, z, w⟩ => by cases z; exact w⟩
    | ok r e2 =>
      refine propext ⟨fun z => ?_, ?_⟩
      · cases r with
        | v d =>
          cases d with
          | non =>
            cases e2 with
            | nil => exact z.elim
            | cons ev e3 => exact ⟨h, ev, e3, rfl, rfl, z⟩
          | _ => exact z.elim
        | _ => exact z.elim
      · rintro ⟨_, ev, e3, rfl, rfl, z⟩
        exact z
  · rw [if_neg h]
    exact propext ⟨fun z => z.elim, fun z => absurd z.1 h⟩
/-! loops -/
theorem forM_wp {t : TgF} {B : MS} (I : List D → List EV → Prop) (hs : ∀ d r e, I (d :: r) e → ∃ e1, t d e = some e1 ∧ (B e1).wp ⟨I r, P.rt, P.nx, I r, P.ex⟩) (he : ∀ e, I [] e → P.nx e) : ∀ {ds : List D} {e : List EV}, I ds e → (forM t B ds e).wp P
  | [], e, h => he e h
  | d :: r, e, h => by
    obtain ⟨e1, h1, h2⟩ := hs d r e h
    unfold forM
    rw [h1]
    dsimp only
    cases q : B e1 with
    | nx e2 => rw [q] at h2; exact forM_wp I hs he h2
    | ct e2 => rw [q] at h2; exact forM_wp I hs he h2
    | bk e2 => rw [q] at h2; exact h2
    | rt r e2 => rw [q] at h2; exact h2
    | ex x e2 => rw [q] at h2; exact h2
    | no => rw [q] at h2; exact h2
theorem lcM_wp {vs : List Nat} {t : TgF} {T : M Bool} {Fe : M D} {Q : List D → List EV → Prop} (I : List D → List D → List EV → Prop)
    (hs : ∀ d r acc e, I (d :: r) acc e → ∃ e1, t d e = some e1 ∧ (T e1).wp (fun b e2 => if b then (Fe e2).wp (fun x e3 => acc.length < 16777216 ∧ I r (acc ++ [x]) (wipeE e3 vs)) (fun _ _ => False) else I r acc (wipeE e2 vs)) fun _ _ => False)
    (he : ∀ acc e, I [] acc e → Q acc e) : ∀ {ds acc : List D} {e : List EV}, I ds acc e → (lcM vs t T Fe ds acc e).wp Q fun _ _ => False
  | [], acc, e, h => he acc e h
  | d :: r, acc, e, h => by
    obtain ⟨e1, h1, h2⟩ := hs d r acc e h
    unfold lcM
    rw [h1]
    dsimp only
    cases q : T e1 with
    | no => rw [q] at h2; exact h2
    | ex x e2 => rw [q] at h2; exact h2
    | ok b e2 =>
      rw [q] at h2
      cases b with
      | false => exact lcM_wp I hs he h2
      | true =>
        have h2 : (Fe e2).wp (fun x e3 => acc.length < 16777216 ∧ I r (acc ++ [x]) (wipeE e3 vs)) (fun _ _ => False) := h2
        dsimp only
        cases q2 : Fe e2 with
        | no => rw [q2] at h2; exact h2
        | ex x e2 => rw [q2] at h2; exact h2
        | ok x e3 =>
          rw [q2] at h2
          dsimp only
          rw [if_pos h2.1]
          exact lcM_wp I hs he h2.2
theorem lcB_wp {vs : List Nat} {t : TgF} {T : M Bool} {Fe : M D} {Q : List D → List EV → Prop} {ds : List D} (I : List D → List D → List EV → Prop)
    (hs : ∀ d r acc e, I (d :: r) acc e → ∃ e1, t d e = some e1 ∧ (T e1).wp (fun b e2 => if b then (Fe e2).wp (fun x e3 => acc.length < 16777216 ∧ I r (acc ++ [x]) (wipeE e3 vs)) (fun _ _ => False) else I r acc (wipeE e2 vs)) fun _ _ => False)
    (he : ∀ acc e1, I [] acc e1 → wpO (backE e e1 vs) fun e2 => Q acc e2) (h0 : I ds [] (wipeE e vs)) : (lcB vs t T Fe ds e).wp Q X := by
  have h := lcM_wp (Q := fun acc e1 => wpO (backE e e1 vs) fun e2 => Q acc e2) I hs he h0
  unfold lcB
  cases q : lcM vs t T Fe ds [] (wipeE e vs) with
  | no => rw [q] at h; exact h
  | ex x e1 => rw [q] at h; exact h.elim
  | ok acc e1 =>
    rw [q] at h
    obtain ⟨e2, h1, h2⟩ := h
    dsimp only
    rw [h1]
    exact h2
/-- a comprehension that leaves the slots as they are -/
theorem lc_map {vs : List Nat} {t : TgF} {T : M Bool} {Fe : M D} {Q : List D → List EV → Prop} {ds : List D} (p : D → Bool) (g : D → D)
    (hs : ∀ d ∈ ds, ∃ e1, t d (wipeE e vs) = some e1 ∧ (T e1).wp (fun b e2 => b = p d ∧ if b then (Fe e2).wp (fun x e3 => x = g d ∧ wipeE e3 vs = wipeE e vs) (fun _ _ => False) else wipeE e2 vs = wipeE e vs) fun _ _ => False)
    (hl : ds.length ≤ 16777216) (hq : wpO (backE e (wipeE e vs) vs) fun e2 => Q ((ds.filter p).map g) e2) : (lcB vs t T Fe ds e).wp Q X := by
  refine lcB_wp (I := fun r acc e1 => e1 = wipeE e vs ∧ (∀ d ∈ r, d ∈ ds) ∧ acc.length + r.length ≤ 16777216 ∧ acc ++ (r.filter p).map g = (ds.filter p).map g) (fun d r acc e1 h => ?_) (fun acc e1 h => ?_) ⟨rfl, fun d h => h, by simpa using hl, rfl⟩
  · obtain ⟨rfl, h1, h2, h3⟩ := h
    obtain ⟨e1, g1, g2⟩ := hs d (h1 d (List.mem_cons_self ..))
    refine ⟨e1, g1, g2.mono (fun b e2 ⟨hb, z⟩ => ?_) fun _ _ z => z⟩
    subst hb
    by_cases hp : p d = true
    · rw [if_pos hp] at z ⊢
      refine z.mono (fun x e3 ⟨hx, he⟩ => ?_) fun _ _ z => z
      subst hx
      rw [List.length_cons] at h2
      rw [List.filter_cons_of_pos hp, List.map_cons] at h3
      exact ⟨by omega, he, fun d' hd => h1 d' (List.mem_cons_of_mem _ hd), by rw [List.length_append, List.length_singleton]; omega, by rw [List.append_assoc]; exact h3⟩
    · rw [if_neg hp] at z ⊢
      rw [List.length_cons] at h2
      rw [List.filter_cons_of_neg hp] at h3
      exact ⟨z, fun d' hd => h1 d' (List.mem_cons_of_mem _ hd), by omega, h3⟩
  · obtain ⟨rfl, _, _, h3⟩ := h
    rw [List.filter_nil, List.map_nil, List.append_nil] at h3
    rw [h3]
    exact hq
@[simp] theorem wp_bndL {vs : List Nat} {t : TgF} {T : M Bool} {Fe : M D} {Fi : M (List D)} {Q : List D → List EV → Prop} : (bnd Fi (lcB vs t T Fe) e).wp Q X = (Fi e).wp (fun ds e1 => (lcB vs t T Fe ds e1).wp Q X) X := wp_bnd
end
end DL

/-! ### the operators at plain data -/
namespace DL
open PySem PyProof.Rows L2
section
variable {i j k : Int} {a b : Bool} {xs ys : List D} {z : Str} {e : List EV}
@[simp] theorem wp_nil0 {X : XV → List EV → Prop} {Q : List D → List EV → Prop} : (nil0 e).wp Q X = Q [] e := rfl
@[simp] theorem wp_nilX {X : XV → List EV → Prop} {Q : List Arg → List EV → Prop} : (nilX e).wp Q X = Q [] e := rfl
@[simp] theorem gAdd_i : gAdd (.int i) (.int j) = some (.int (i + j)) := rfl
@[simp] theorem gAdd_l : gAdd (.lst xs) (.lst ys) = if xs.length + ys.length ≤ 16777216 then some (.lst (xs ++ ys)) else none := rfl
@[simp] theorem gAdd_t : gAdd (.tup xs) (.tup ys) = if xs.length + ys.length ≤ 16777216 then some (.tup (xs ++ ys)) else none := rfl
@[simp] theorem gSub_i : gSub (.int i) (.int j) = some (.int (i - j)) := rfl
@[simp] theorem gMul_i : gMul (.int i) (.int j) = if (i.natAbs < 18446744073709551616 ∨ j.natAbs < 18446744073709551616) then some (.int (i * j)) else none := rfl
@[simp] theorem gMod_i : gMod (.int i) (.int j) = if 0 < j then some (.int (i % j)) else none := rfl
@[simp] theorem gDiv_i : gDiv (.int i) (.int j) = if 0 < j ∧ j < 1073741824 then some (.int (i / j)) else none := rfl
@[simp] theorem gPow_i : gPow (.int i) (.int j) = if 0 ≤ j ∧ j ≤ 1000000 ∧ i.natAbs < 18446744073709551616 then some (.int (i ^ j.toNat)) else none := rfl
@[simp] theorem gNeg_i : gNeg (.int i) = some (.int (-i)) := rfl
@[simp] theorem gNot_b : gNot (.bl b) = some (.bl (!b)) := rfl
@[simp] theorem gCmp_i {p : Int → Int → Bool} : gCmp p (.int i) (.int j) = some (.bl (p i j)) := rfl
@[simp] theorem gEq_i : gEq (.int i) (.int j) = some (.bl (decide (i = j))) := rfl
@[simp] theorem gNe_i : gNe (.int i) (.int j) = some (.bl (!decide (i = j))) := rfl
@[simp] theorem gIx_l : gIx (.lst xs) (.int i) = atI xs i := rfl
@[simp] theorem gIx_t : gIx (.tup xs) (.int i) = atI xs i := rfl
@[simp] theorem gIx_s {ns : List Int} : gIx (.scr ns) (.int i) = (atI ns i).map .int := rfl
@[simp] theorem gLen_l : gLen [.lst xs] = some (.int xs.length) := rfl
@[simp] theorem gLen_t : gLen [.tup xs] = some (.int xs.length) := rfl
@[simp] theorem gLen_s {ns : List Int} : gLen [.scr ns] = some (.int ns.length) := rfl
@[simp] theorem gAbs_i : gAbs [.int i] = some (.int (if i < 0 then -i else i)) := rfl
@[simp] theorem gInt_i : gInt [.int i] = some (.int i) := rfl
@[simp] theorem gTup_d : gTup xs = if xs.length ≤ 16777216 then some (.tup xs) else none := rfl
@[simp] theorem gLst_d : gLst xs = if xs.length ≤ 16777216 then some (.lst xs) else none := rfl
@[simp] theorem gTupOf_l : gTupOf [.lst xs] = some (.tup xs) := rfl
@[simp] theorem gTupOf_t : gTupOf [.tup xs] = some (.tup xs) := rfl
@[simp] theorem gLstOf_l : gLstOf [.lst xs] = some (.lst xs) := rfl
@[simp] theorem gLstOf_t : gLstOf [.tup xs] = some (.lst xs) := rfl
@[simp] theorem gMin2_i : gMin2 [.int i, .int j] = some (.int (if j < i then j else i)) := rfl
@[simp] theorem gRg1_i : gRg1 [.int i] = if small62 i then some (rgD 0 i.toNat) else none := rfl
@[simp] theorem gRg2_i : gRg2 [.int i, .int j] = if small62 i && small62 j then some (rgD i (j - i).toNat) else none := rfl
@[simp] theorem gRg3_i : gRg3 [.int i, .int j, .int k] = if k = -1 ∧ small62 i = true ∧ small62 j = true then some (dnD i (i - j).toNat) else none := rfl
@[simp] theorem gRgV_i : gRgV [.int i] = if 0 ≤ i ∧ i ≤ 16777216 then some (rgD 0 i.toNat) else none := rfl
@[simp] theorem gSl_l {l h : Option Int} : gSl (.lst xs) l h = some (.lst (cutD xs l h)) := rfl
@[simp] theorem gSl_t {l h : Option Int} : gSl (.tup xs) l h = some (.tup (cutD xs l h)) := rfl
@[simp] theorem itemsOf_l : itemsOf (.lst xs) = some xs := rfl
@[simp] theorem itemsOf_t : itemsOf (.tup xs) = some xs := rfl
@[simp] theorem itemsOf_s {ns : List Int} : itemsOf (.scr ns) = some (ns.map .int) := rfl
@[simp] theorem toD_v {d : D} : toD (.v d) = some d := rfl
@[simp] theorem toD_o {ds : List D} : toD (.ol (ds.map .v)) = some (.lst ds) := by
  show (toDs (ds.map .v)).map D.lst = _
  rw [@toDs_v ⟨fun _ => []⟩ ds]
  rfl
@[simp] theorem putO_c {ds : List D} {i : Nat} : putO i ds e = e.set i (.ol (ds.map .v)) := rfl
def plE (o : Option EV) : Option (List D) := match o with
  | some (.ol xs) => plainL xs
  | _ => none
@[simp] theorem getO_c {i : Nat} : getO i e = plE e[i]? := rfl
@[simp] theorem plE_o {us : List EV} : plE (some (.ol us)) = plainL us := rfl
@[simp] theorem plainL_m {ds : List D} : plainL (ds.map .v) = some ds := @plainL_map ⟨fun _ => []⟩ ds
@[simp] theorem plainL_n : plainL [] = some [] := rfl
@[simp] theorem plainL_c {d : D} {us : List EV} : plainL (.v d :: us) = (plainL us).map fun ds => d :: ds := rfl
/-- an own instance in a slot -/
def wpI (o : Option EV) (Q : Str → List Str → List D → Prop) : Prop := match o with
  | some (.oi c fn fv) => wpO (plainL fv) fun ds => Q c fn ds
  | _ => False
@[simp] theorem wpI_o {c : Str} {fn : List Str} {fv : List EV} {Q : Str → List Str → List D → Prop} : wpI (some (.oi c fn fv)) Q = wpO (plainL fv) fun ds => Q c fn ds := rfl
@[simp] theorem wp_fldS {cl : List Str} {n : Nat} {f : Str} {Fa : M D} {P : Pe} : (fldS cl n f Fa e).wp P = (Fa e).wp (fun d e1 => wpI e1[n]? fun c fn ds => (c ∈ cl ∧ fn.length < 1000) ∧ P.nx (e1.set n (.oi c (putK f fn) ((putN f d fn ds).map .v)))) P.ex := by
  unfold fldS
  rw [wp_bndS]
  congr 1
  funext d e1
  unfold getI wpI
  cases e1[n]? with
  | none => rfl
  | some ev =>
    cases ev with
    | oi c fn fv =>
      dsimp only
      cases plainL fv with
      | none => exact propext ⟨fun z => z.elim, fun ⟨_, z, _⟩ => by cases z⟩
      | some ds =>
        rw [wpO_some]
        show SO.wp (if c ∈ cl ∧ fn.length < 1000 then _ else _) P = _
        by_cases h : c ∈ cl ∧ fn.length < 1000
        · rw [if_pos h]
          exact propext ⟨fun z => ⟨h, z⟩, fun z => z.2⟩
        · rw [if_neg h]
          exact propext ⟨fun z => z.elim, fun z => absurd z.1 h⟩
    | _ => rfl
@[simp] theorem wp_pkFld {cl : List Str} {n : Nat} {f : Str} {Q : D → List EV → Prop} {X : XV → List EV → Prop} : (pkFld cl n f e).wp Q X = wpI e[n]? fun c fn ds => c ∈ cl ∧ wpO (lookF fn ds f) fun d => Q d e := by
  unfold pkFld getI wpI
  cases e[n]? with
  | none => rfl
  | some ev =>
    cases ev with
    | oi c fn fv =>
      dsimp only
      cases plainL fv with
      | none => exact propext ⟨fun z => z.elim, fun ⟨_, z, _⟩ => by cases z⟩
      | some ds =>
        rw [wpO_some]
        show Out.wp (if c ∈ cl then ofO (lookF fn ds f) e else Out.no) Q X = _
        by_cases h : c ∈ cl
        · rw [if_pos h, wp_ofO]
          exact propext ⟨fun z => ⟨h, z⟩, fun z => z.2⟩
        · rw [if_neg h]
          exact propext ⟨fun z => z.elim, fun z => absurd z.1 h⟩
    | _ => rfl
theorem toBls_t {β : Type} : ∀ ds : List β, toBls (ds.map fun _ => D.bl true) = some (ds.map fun _ => true)
  | [] => rfl
  | d :: ds => by
    show (toBls (ds.map fun _ => D.bl true)).map _ = _
    rw [toBls_t ds]
    rfl
@[simp] theorem gAll_t {β : Type} {ds : List β} : gAll [.lst (ds.map fun _ => D.bl true)] = some (.bl true) := by
  show (toBls (ds.map fun _ => D.bl true)).map _ = _
  rw [toBls_t ds]
  simp
theorem atI_get {α : Type} {us : List α} {i : Int} (h0 : 0 ≤ i) (h1 : i < us.length) : ∃ h : i.toNat < us.length, atI us i = some us[i.toNat] := by
  have h : i.toNat < us.length := by omega
  refine ⟨h, ?_⟩
  unfold atI ixN
  rw [if_pos h0, if_pos h1]
  simp [h]
end
end DL

namespace DL
open PySem PyProof.Rows L2
variable [LT] {e : List EV}
/-- what the clauses answer -/
def hrd (o : SO) (Q : D → Prop) : Prop := match o with
  | .rt (.v d) _ => Q d
  | _ => False
@[simp] theorem hrd_v {d : D} {Q : D → Prop} : hrd (.rt (.v d) e) Q = Q d := rfl
@[simp] theorem wp_heardM {kd : Option Str} {n : Nat} {hs : List Hd} {Fb : M D} {Q : D → List EV → Prop} {X : XV → List EV → Prop} : (heardM kd n hs Fb e).wp Q X = (Fb e).wp (fun d e1 => Q (toldD kd d) e1) (fun x e1 => hrd (tryH x (List.replicate n .un) hs) fun d => Q d e1) := by
  unfold heardM
  cases h : Fb e with
  | ok d e1 => rfl
  | no => rfl
  | ex x e1 =>
    simp only [Out.wp]
    cases h2 : tryH x (List.replicate n .un) hs with
    | rt r e2 => cases r <;> rfl
    | _ => rfl
theorem wp_callV_of {tbl : List (Str × Nat × (List EV → Out EV))} {i n : Nat} {nm : Str} {S : List EV → Out EV} {Fx : M (List Arg)} {Q : EV → List EV → Prop} {X : XV → List EV → Prop} (h : e[i]? = some (.v (.gl nm))) (h2 : tbl.lookup nm = some (n, S)) (hq : (callF n S [] Fx e).wp Q X) : (callV tbl i Fx e).wp Q X := by
  unfold callV
  rw [h]
  simp only []
  rw [h2]
  exact hq
/-! ### what is shown -/
mutual
/-- plain, and shown in few letters -/
def okD : DL.D → Bool
  | .non | .bl _ => true
  | .int i => decide (i.natAbs.log2 < 1920)
  | .str s => PyData.strOk s && (PyData.strOk (reprText s) && decide ((reprText s).length ≤ 1921))
  | .tup xs | .lst xs => okDs xs
  | _ => false
def okDs : List DL.D → Bool
  | [] => true
  | x :: xs => okD x && okDs xs
/-- how deep -/
def dpt : DL.D → Nat
  | .tup xs | .lst xs => dpts xs + 1
  | _ => 0
def dpts : List DL.D → Nat
  | [] => 0
  | x :: xs => max (dpt x) (dpts xs)
/-- how many letters at most -/
def shw : DL.D → Nat
  | .tup xs | .lst xs => shws xs + 4
  | _ => 1921
def shws : List DL.D → Nat
  | [] => 0
  | x :: xs => shw x + 2 + shws xs
end
theorem strOk_append {a b : Str} : PyData.strOk (a ++ b) = (PyData.strOk a && PyData.strOk b) := by
  show (a.cps ++ b.cps).all _ = _
  rw [Array.all_append]
  rfl
theorem strOk_of (s : String) : PyData.strOk (s : Str) = true := by
  show ((cpsOfBytes 0 0 s.toByteArray.data.toList).toArray).all _ = true
  rw [cpsOfBytes_string, List.all_toArray, List.all_eq_true]
  intro n hn
  obtain ⟨c, _, rfl⟩ := List.mem_map.mp hn
  have h := c.valid
  simp only [UInt32.isValidChar, Nat.isValidChar] at h
  have ht : c.toNat = c.val.toNat := rfl
  simp only [decide_eq_true_eq]
  omega
theorem strOk_from : ∀ (ts : List Str) (k : Nat) (acc : Str), PyData.strOk acc = true → (∀ t ∈ ts, PyData.strOk t = true) → PyData.strOk (textFrom k acc ts) = true
  | [], _, acc, h, _ => h
  | t :: r, k, acc, h, h2 => by
    rw [textFrom]
    refine strOk_from r (k + 1) _ ?_ fun x hx => h2 x (List.mem_cons_of_mem _ hx)
    rw [strOk_append, strOk_append, h, h2 t (List.mem_cons_self ..), strOk_of]
    rfl
theorem strOk_join : ∀ (ts : List Str), (∀ t ∈ ts, PyData.strOk t = true) → PyData.strOk (Str.join ", " ts) = true
  | [], _ => strOk_of ""
  | [x], h => h x (List.mem_cons_self ..)
  | x :: y :: r, h => by
    show PyData.strOk (x ++ ", " ++ Str.join ", " (y :: r)) = true
    rw [strOk_append, strOk_append, strOk_join (y :: r) fun t ht => h t (List.mem_cons_of_mem _ ht), h x (List.mem_cons_self ..), strOk_of]
    rfl
theorem strOk_tuple {ts : List Str} (h : ∀ t ∈ ts, PyData.strOk t = true) : PyData.strOk (tupleText ts) = true := by
  unfold tupleText
  rw [strOk_append, strOk_append, strOk_of, strOk_of, strOk_join ts h]
  rfl
theorem strOk_list {ts : List Str} (h : ∀ t ∈ ts, PyData.strOk t = true) : PyData.strOk (listText ts) = true := by
  unfold listText
  rw [strOk_append, strOk_of, strOk_from ts 0 _ (strOk_of _) h]
  rfl
theorem tupleText_le (ts : List Str) : (tupleText ts).length ≤ piled ts + 4 := by
  unfold tupleText
  rw [strLen_append, strLen_append]
  have e1 : ((("(" : String) : Str)).length = 1 := rfl
  have e3 : (((if ts.length == 1 then ",)" else ")" : String) : Str)).length ≤ 2 := by split <;> decide
  rw [e1]
  by_cases h : ts = []
  · subst h
    have e : (Str.join ", " []).length = 0 := rfl
    rw [e]
    omega
  · have := join_length_add ts h
    omega
theorem listText_le (ts : List Str) : (listText ts).length ≤ piled ts + 4 := by
  unfold listText
  rw [strLen_append]
  have e1 : ((("]" : String) : Str)).length = 1 := rfl
  have e2 : ((("[" : String) : Str)).length = 1 := rfl
  rw [e1]
  cases ts with
  | nil => show (("[" : String) : Str).length + 1 ≤ _; rw [e2]; omega
  | cons t r =>
    show (textFrom 1 (("[" : String) ++ (if 0 > 0 then ", " else "" : String) ++ t : Str) r).length + 1 ≤ _
    rw [textFrom_length_pos r 1 _ (by decide), strLen_append, strLen_append, if_neg (by decide), piled_cons, e2]
    have e4 : ((("" : String) : Str)).length = 0 := rfl
    rw [e4]
    omega
mutual
theorem shown_ok : ∀ {d : DL.D}, okD d = true → ∃ p, toP d = some p ∧ p.showable = true ∧ p.hasDict = false ∧ p.depth = dpt d ∧ p.shown.length ≤ shw d ∧ p.canLay0 = true ∧ PyData.eqv p p = true ∧ PyData.strOk p.shown = true
  | .non, _ => ⟨_, rfl, by simp [PyData.showable], by simp [PyData.hasDict], by simp [PyData.depth, dpt], by
      simp only [PyData.shown, shw]
      decide, by simp [PyData.canLay0], by simp [PyData.eqv], by simp only [PyData.shown]; exact strOk_of _⟩
  | .bl b, _ => ⟨_, rfl, by simp [PyData.showable], by simp [PyData.hasDict], by simp [PyData.depth, dpt], by
      simp only [PyData.shown, shw]
      cases b <;> decide, by simp [PyData.canLay0], by simp [PyData.eqv], by simp only [PyData.shown]; cases b <;> exact strOk_of _⟩
  | .int i, h => ⟨_, rfl, by simpa [PyData.showable, okD] using h, by simp [PyData.hasDict], by simp [PyData.depth, dpt], by
      simp only [PyData.shown, shw]
      exact int_text_len_1921 (by simpa [okD] using h), by simp [PyData.canLay0], by simp [PyData.eqv], by simp only [PyData.shown]; exact strOk_of _⟩
  | .str s, h => by
    rw [okD] at h
    obtain ⟨h1, h2⟩ := Bool.and_eq_true_iff.mp h
    obtain ⟨h3, h2⟩ := Bool.and_eq_true_iff.mp h2
    exact ⟨_, rfl, by simp [PyData.showable], by simp [PyData.hasDict], by simp [PyData.depth, dpt], by simpa [PyData.shown, shw] using h2, by simpa [PyData.canLay0] using h1, by simp [PyData.eqv], by simpa [PyData.shown] using h3⟩
  | .tup xs, h => by
    obtain ⟨ps, h1, h2, h3, h4, h5, h6, h7, h8⟩ := showns_ok (xs := xs) (by simpa [okD] using h)
    refine ⟨.tuple ps, by simp [toP, h1], by simpa [PyData.showable] using h2, by simpa [PyData.hasDict] using h3, by simp [PyData.depth, dpt, h4], ?_, by simpa [PyData.canLay0] using h6, by simpa [PyData.eqv] using h7, by simp only [PyData.shown]; exact strOk_tuple h8⟩
    simp only [PyData.shown, shw]
    exact Nat.le_trans (tupleText_le _) (by omega)
  | .lst xs, h => by
    obtain ⟨ps, h1, h2, h3, h4, h5, h6, h7, h8⟩ := showns_ok (xs := xs) (by simpa [okD] using h)
    refine ⟨.list ps, by simp [toP, h1], by simpa [PyData.showable] using h2, by simpa [PyData.hasDict] using h3, by simp [PyData.depth, dpt, h4], ?_, by simpa [PyData.canLay0] using h6, by simpa [PyData.eqv] using h7, by simp only [PyData.shown]; exact strOk_list h8⟩
    simp only [PyData.shown, shw]
    exact Nat.le_trans (listText_le _) (by omega)
  | .ty _, h | .gl _, h | .scr _, h | .exc _ _ _, h | .ins _ _ _, h | .pr _ _, h => by simp [okD] at h
theorem showns_ok : ∀ {xs : List DL.D}, okDs xs = true → ∃ ps, toPs xs = some ps ∧ PyData.showableAll ps = true ∧ PyData.hasDictAll ps = false ∧ PyData.depthAll ps = dpts xs ∧ piled (PyData.shownAll ps) ≤ shws xs ∧ PyData.canLayAll0 ps = true ∧ PyData.eqvAll ps ps = true ∧ ∀ t ∈ PyData.shownAll ps, PyData.strOk t = true
  | [], _ => ⟨[], rfl, rfl, rfl, rfl, Nat.zero_le _, rfl, rfl, fun t ht => by cases ht⟩
  | x :: xs, h => by
    rw [okDs] at h
    obtain ⟨g1, g2⟩ := Bool.and_eq_true_iff.mp h
    obtain ⟨p, a1, a2, a3, a4, a5, a6, a7, a8⟩ := shown_ok g1
    obtain ⟨ps, h1, h2, h3, h4, h5, h6, h7, h8⟩ := showns_ok g2
    refine ⟨p :: ps, by simp [toPs, a1, h1], by simp [PyData.showableAll, a2, h2], by simp [PyData.hasDictAll, a3, h3], by simp [PyData.depthAll, dpts, a4, h4], ?_, by simp [PyData.canLayAll0, a6, h6], by simp [PyData.eqvAll, a7, h7], fun t ht => by
      rcases List.mem_cons.mp ht with rfl | ht
      · exact a8
      · exact h8 t ht⟩
    simp only [PyData.shownAll, piled_cons, shws]
    omega
end
/-- what can be shown and told alike -/
structure Plain (d : DL.D) : Prop where
  ok : okD d = true
  deep : dpt d ≤ 60
  few : shw d ≤ 16777216
theorem Plain.repr {d : DL.D} (h : Plain d) : ∃ s, gRepr [d] = some (.str s) ∧ PyData.strOk s = true := by
  obtain ⟨p, a1, a2, a3, a4, a5, a6, a7, a8⟩ := shown_ok h.ok
  have := h.deep
  have := h.few
  refine ⟨p.shown, ?_, a8⟩
  simp only [gRepr, a1, a2, a3]
  rw [if_pos]
  simp
  omega
mutual
/-- what can be told alike -/
def eqK : DL.D → Bool
  | .non | .bl _ | .int _ => true
  | .str s => PyData.strOk s
  | .tup xs | .lst xs => eqKs xs
  | _ => false
def eqKs : List DL.D → Bool
  | [] => true
  | x :: xs => eqK x && eqKs xs
end
mutual
theorem eqK_ok : ∀ {d : DL.D}, eqK d = true → ∃ p, toP d = some p ∧ p.depth = dpt d ∧ p.canLay0 = true ∧ PyData.eqv p p = true
  | .non, _ => ⟨_, rfl, by simp [PyData.depth, dpt], by simp [PyData.canLay0], by simp [PyData.eqv]⟩
  | .bl b, _ => ⟨_, rfl, by simp [PyData.depth, dpt], by simp [PyData.canLay0], by simp [PyData.eqv]⟩
  | .int i, _ => ⟨_, rfl, by simp [PyData.depth, dpt], by simp [PyData.canLay0], by simp [PyData.eqv]⟩
  | .str s, h => ⟨_, rfl, by simp [PyData.depth, dpt], by simpa [PyData.canLay0, eqK] using h, by simp [PyData.eqv]⟩
  | .tup xs, h => by
    obtain ⟨ps, h1, h2, h3, h4⟩ := eqKs_ok (xs := xs) (by simpa [eqK] using h)
    exact ⟨.tuple ps, by simp [toP, h1], by simp [PyData.depth, dpt, h2], by simpa [PyData.canLay0] using h3, by simpa [PyData.eqv] using h4⟩
  | .lst xs, h => by
    obtain ⟨ps, h1, h2, h3, h4⟩ := eqKs_ok (xs := xs) (by simpa [eqK] using h)
    exact ⟨.list ps, by simp [toP, h1], by simp [PyData.depth, dpt, h2], by simpa [PyData.canLay0] using h3, by simpa [PyData.eqv] using h4⟩
  | .ty _, h | .gl _, h | .scr _, h | .exc _ _ _, h | .ins _ _ _, h | .pr _ _, h => by simp [eqK] at h
theorem eqKs_ok : ∀ {xs : List DL.D}, eqKs xs = true → ∃ ps, toPs xs = some ps ∧ PyData.depthAll ps = dpts xs ∧ PyData.canLayAll0 ps = true ∧ PyData.eqvAll ps ps = true
  | [], _ => ⟨[], rfl, rfl, rfl, rfl⟩
  | x :: xs, h => by
    rw [eqKs] at h
    obtain ⟨g1, g2⟩ := Bool.and_eq_true_iff.mp h
    obtain ⟨p, a1, a2, a3, a4⟩ := eqK_ok g1
    obtain ⟨ps, h1, h2, h3, h4⟩ := eqKs_ok g2
    exact ⟨p :: ps, by simp [toPs, a1, h1], by simp [PyData.depthAll, dpts, a2, h2], by simp [PyData.canLayAll0, a3, h3], by simp [PyData.eqvAll, a4, h4]⟩
end
theorem eqD_self {d : DL.D} (h : eqK d = true) (hd : dpt d ≤ 64) : eqD d d = some true := by
  obtain ⟨p, a1, a2, a3, a4⟩ := eqK_ok h
  have e : SeqAt.shaped p = true := by
    unfold SeqAt.shaped
    rw [a2, a3]
    simp
    omega
  simp [eqD, a1, e, a4]
theorem gEq_self {d : DL.D} (h : eqK d = true) (hd : dpt d ≤ 64) : gEq d d = some (.bl true) := by unfold gEq; rw [eqD_self h hd]; rfl
theorem gNe_self {d : DL.D} (h : eqK d = true) (hd : dpt d ≤ 64) : gNe d d = some (.bl false) := by unfold gNe; rw [eqD_self h hd]; rfl
theorem gEq_str {s : Str} (h : PyData.strOk s = true) : gEq (.str s) (.str s) = some (.bl true) := gEq_self (by simpa [eqK] using h) (by simp [dpt])
theorem gNe_str {s : Str} (h : PyData.strOk s = true) : gNe (.str s) (.str s) = some (.bl false) := gNe_self (by simpa [eqK] using h) (by simp [dpt])
theorem okDs_all {xs : List DL.D} (h : ∀ x ∈ xs, okD x = true) : okDs xs = true := by
  induction xs with
  | nil => rfl
  | cons x xs ih => rw [okDs, h x (List.mem_cons_self ..), ih fun y hy => h y (List.mem_cons_of_mem _ hy)]; rfl
theorem dpts_le {xs : List DL.D} {k : Nat} (h : ∀ x ∈ xs, dpt x ≤ k) : dpts xs ≤ k := by
  induction xs with
  | nil => exact Nat.zero_le _
  | cons x xs ih =>
    have h1 := h x (List.mem_cons_self ..)
    have h2 := ih fun y hy => h y (List.mem_cons_of_mem _ hy)
    rw [dpts]
    omega
theorem shws_le {xs : List DL.D} {k : Nat} (h : ∀ x ∈ xs, shw x ≤ k) : shws xs ≤ (k + 2) * xs.length := by
  induction xs with
  | nil => exact Nat.zero_le _
  | cons x xs ih =>
    have h1 := h x (List.mem_cons_self ..)
    have h2 := ih fun y hy => h y (List.mem_cons_of_mem _ hy)
    rw [shws, List.length_cons, Nat.mul_succ]
    omega
theorem ok_int {i : Int} (h : i.natAbs < 2 ^ 64) : okD (.int i) = true := by
  rw [okD]
  simp
  by_cases hz : i.natAbs = 0
  · rw [hz]; decide
  · have : i.natAbs.log2 < 64 := (Nat.log2_lt hz).mpr h
    omega
end DL

namespace DL
open PySem PyProof.Rows L2
variable [LT] {e : List EV} {P : Pe}
theorem wp_forM_nil {t : TgF} {B : MS} : (DL.forM t B [] e).wp P = P.nx e := rfl
theorem wp_forM_cons {t : TgF} {B : MS} {d : DL.D} {r : List DL.D} : (DL.forM t B (d :: r) e).wp P = wpO (t d e) fun e1 => (B e1).wp ⟨fun e2 => (DL.forM t B r e2).wp P, P.rt, P.nx, fun e2 => (DL.forM t B r e2).wp P, P.ex⟩ := by
  rw [DL.forM]
  cases h : t d e with
  | none => exact propext ⟨fun z => z.elim, fun ⟨_, z, _⟩ => by cases z⟩
  | some e1 =>
    rw [wpO_some]
    dsimp only
    cases B e1 <;> rfl
theorem toInts_n : ∀ l : List Nat, toInts (l.map fun n : Nat => DL.D.int n) = some (l.map fun n : Nat => (n : Int))
  | [] => rfl
  | x :: l => by rw [List.map_cons, toInts, toInts_n l]; rfl
theorem gMaxL_n {l : List Nat} {k : Nat} (h : k ∈ l) (hb : ∀ x ∈ l, x ≤ k) : gMaxL [.lst (l.map fun n : Nat => DL.D.int n)] = some (.int k) := by
  rw [gMaxL, toInts_n]
  have e : (l.map fun n : Nat => (n : Int)).max? = some (k : Int) := by
    rw [List.max?_eq_some_iff]
    refine ⟨List.mem_map.mpr ⟨k, h, rfl⟩, fun b hb2 => ?_⟩
    obtain ⟨x, hx, rfl⟩ := List.mem_map.mp hb2
    have := hb x hx
    omega
  simp [e]
theorem gMinL_n {l : List Nat} {k : Nat} (h : k ∈ l) (hb : ∀ x ∈ l, k ≤ x) : gMinL [.lst (l.map fun n : Nat => DL.D.int n)] = some (.int k) := by
  rw [gMinL, toInts_n]
  have e : (l.map fun n : Nat => (n : Int)).min? = some (k : Int) := by
    rw [List.min?_eq_some_iff]
    refine ⟨List.mem_map.mpr ⟨k, h, rfl⟩, fun b hb2 => ?_⟩
    obtain ⟨x, hx, rfl⟩ := List.mem_map.mp hb2
    have := hb x hx
    omega
  simp [e]
theorem min_ex : ∀ {l : List Nat}, l ≠ [] → ∃ k, k ∈ l ∧ ∀ x ∈ l, k ≤ x
  | [], h => absurd rfl h
  | [x], _ => ⟨x, List.mem_cons_self .., fun y hy => by rw [List.mem_singleton.mp hy]; exact Nat.le_refl _⟩
  | x :: y :: l, _ => by
    obtain ⟨k, h1, h2⟩ := min_ex (l := y :: l) (by simp)
    by_cases h : x ≤ k
    · exact ⟨x, List.mem_cons_self .., fun z hz => by
        rcases List.mem_cons.mp hz with rfl | hz
        · exact Nat.le_refl _
        · exact Nat.le_trans h (h2 z hz)⟩
    · exact ⟨k, List.mem_cons_of_mem _ h1, fun z hz => by
        rcases List.mem_cons.mp hz with rfl | hz
        · omega
        · exact h2 z hz⟩
end DL

namespace DL
open PySem PySem.Spec PyProof.Rows L2
variable [LT]
/-! ### zip of two lists, of two tuples -/
def zpD (xs ys : List D) : List D := xs.zipWith (fun a b => .pr a b) ys
def gZip : List D → Option (List D)
  | [.lst xs, .lst ys] => some (zpD xs ys)
  | [.tup xs, .tup ys] => some (zpD xs ys)
  | _ => none
theorem zpD_get (xs ys : List D) (i : Nat) {d : D} (h : (zpD xs ys)[i]? = some d) : ∃ a b, xs[i]? = some a ∧ ys[i]? = some b ∧ d = .pr a b := by
  unfold zpD at h
  rw [List.getElem?_zipWith] at h
  cases h1 : xs[i]? with
  | none => rw [h1] at h; cases h
  | some a =>
    cases h2 : ys[i]? with
    | none => rw [h1, h2] at h; cases h
    | some b => rw [h1, h2] at h; cases h; exact ⟨a, b, rfl, rfl, rfl⟩
theorem zpD_length (xs ys : List D) : (zpD xs ys).length = min xs.length ys.length := by
  unfold zpD
  simp
theorem walk_zp {R : RC} {G : Hp} {a b : Addr} {xs ys : List D} {vs ws : List V} (h : SqL R.K G a vs) (h2 : SqL R.K G b ws) (r : Reps R G xs vs) (r2 : Reps R G ys ws) : Walk R G (Itz R.K a b) (zpD xs ys) := by
  intro i Gc Hc s1 s2
  have ha : SqL R.K Hc a vs := s2.sqL (s1.sqL h)
  have hb : SqL R.K Hc b ws := s2.sqL (s1.sqL h2)
  refine ⟨fun hi => ⟨vs, ws, ha, hb, ?_⟩, fun d hd => ?_⟩
  · rw [zpD_length, r.length, r2.length] at hi
    omega
  obtain ⟨x, y, e1, e2, rfl⟩ := zpD_get xs ys i hd
  obtain ⟨v, f1, f2⟩ := r.get e1
  obtain ⟨w, g1, g2⟩ := r2.get e2
  refine ⟨⟨vs, ws, v, w, ha, hb, f1, g1⟩, fun z H' ⟨T, p, q, y1, y2, y3, y4, y5⟩ => ?_⟩
  subst y1 y3
  have z1 := y4 vs ha
  have z2 := y5 ws hb
  rw [f1] at z1
  rw [g1] at z2
  cases z1
  cases z2
  have al : Alo Gc Hc (upd Gc T (.tup [v, w])) (upd Hc T (.tup [v, w])) := .new s2 y2
  exact ⟨_, al, T, v, w, rfl, upd_same, (f2.mono s1).mono al.sub, (g2.mono s1).mono al.sub⟩
theorem walk_zpT {R : RC} {G : Hp} {a b : Addr} {xs ys : List D} {vs ws : List V} (h : SqT R.K G a vs) (h2 : SqT R.K G b ws) (r : Reps R G xs vs) (r2 : Reps R G ys ws) : Walk R G (RZ.ItzT R.K a b) (zpD xs ys) := by
  intro i Gc Hc s1 s2
  have ha : SqT R.K Hc a vs := s2.sqT (s1.sqT h)
  have hb : SqT R.K Hc b ws := s2.sqT (s1.sqT h2)
  refine ⟨fun hi => ⟨vs, ws, ha, hb, ?_⟩, fun d hd => ?_⟩
  · rw [zpD_length, r.length, r2.length] at hi
    omega
  obtain ⟨x, y, e1, e2, rfl⟩ := zpD_get xs ys i hd
  obtain ⟨v, f1, f2⟩ := r.get e1
  obtain ⟨w, g1, g2⟩ := r2.get e2
  refine ⟨⟨vs, ws, v, w, ha, hb, f1, g1⟩, fun z H' ⟨T, p, q, y1, y2, y3, y4, y5⟩ => ?_⟩
  subst y1 y3
  have z1 := y4 vs ha
  have z2 := y5 ws hb
  rw [f1] at z1
  rw [g1] at z2
  cases z1
  cases z2
  have al : Alo Gc Hc (upd Gc T (.tup [v, w])) (upd Hc T (.tup [v, w])) := .new s2 y2
  exact ⟨_, al, T, v, w, rfl, upd_same, (f2.mono s1).mono al.sub, (g2.mono s1).mono al.sub⟩
theorem di_zip {X : Cx} {W : WX} {a b : Expr} {Fs : M (List D)} {p pos tpos : Pos} {elts : List Expr} {kk : Nat} (hg : Gl X "zip") (hm : X.mg "zip" = none) (ha : DAs X W [a, b] Fs)
    (hs : starEach [a, b] X.env = (false, eval a X.env) :: starEach [b] X.env := by rfl) (hpl : (backTo pos (starEach [b] X.env)).any (·.1) = false := by rfl) :
    DI X W (.Tuple elts kk tpos) (.Call (.Name "zip" p) [a, b] [] pos) (onI gZip Fs) := PI.imp (RZ.pi_zipA hg hm ha hs hpl) fun σ H Q h => by
  refine tM_then (P1 := Reps (rc X)) h fun G1 env1 f1 ds vs H1 e p q => ?_
  obtain ⟨l, hl, q⟩ := q.fin' e
  unfold gZip at hl
  split at hl
  · cases hl
    obtain ⟨v, v', rfl, h1, h2⟩ := p.two'
    obtain ⟨a1, xs, rfl, h3, h4⟩ := h1
    obtain ⟨a2, ys, rfl, h5, h6⟩ := h2
    exact ⟨a1, a2, xs, ys, rfl, .inl ⟨SqL.of (e.sub _ _ h3), SqL.of (e.sub _ _ h5), q _ (walk_zp (R := rc X) (SqL.of h3) (SqL.of h5) h4 h6)⟩⟩
  · cases hl
    obtain ⟨v, v', rfl, h1, h2⟩ := p.two'
    obtain ⟨a1, xs, rfl, h3, h4⟩ := h1
    obtain ⟨a2, ys, rfl, h5, h6⟩ := h2
    exact ⟨a1, a2, xs, ys, rfl, .inr ⟨(e.sub.tpA h3).sq, (e.sub.tpA h5).sq, q _ (walk_zpT (R := rc X) h3.sq h5.sq h4 h6)⟩⟩
  · cases hl
end DL

namespace DL
open PySem PySem.Spec PyProof.Rows L2
variable [LT]
/-! ### x.m(..), x one's own instance or a frozen one -/
theorem AtO.then {α β : Type} {R : RC} {W : WX} {P1 : Hp → α → β → Prop} {F : M α} {k : α → M EV} {σ : L2.St} {G H : Hp} {env : List EV} {f : List Addr} {Q : VK} {Q' : β → Hp → Prop} (e : EnvOk R G H env σ f) (h : AtO R W (bnd F k env) G H f σ Q)
    (w : ∀ G1 env1 f1 a b H1, Sub G G1 → EnvOk R G1 H1 env1 σ f1 → P1 G1 a b → AtO R W (k a env1) G1 H1 f1 σ Q → Q' b H1) : tM R W P1 F σ H Q' := by
  refine ⟨G, env, f, e, ?_⟩
  have h : AtO R W ((F env).bind k) G H f σ Q := h
  cases q : F env with
  | ok a e1 =>
    rw [q] at h
    exact fun b G' H' f' s e' p => w G' e1 f' a b H' s.sub e' p (h.step s)
  | ex x e1 => rw [q] at h; exact h
  | no => rw [q] at h; exact h
section
variable {X : Cx} {W : WX} {k : Nat} {f : Addr} {fd : FuncData} {ps : List Str} {S : List EV → Out EV} {dvs : List V} {ds : List Value} {dd : List D} {x m : Str} {p apos pos : Pos} {pl : Sem Bool} {n i : Nat} {o : Expr} {Fo : M D}
/-- what stands ahead of the arguments -/
def consA (a : Arg) (Fx : M (List Arg)) : M (List Arg) := bnd Fx fun as e => .ok (a :: as) e
def methF (cl : List Str) (i : Nat) (m : Str) (n : Nat) (S : List EV → Out EV) (dd : List D) (Fx : M (List Arg)) : M EV := fun e => match getI i e with
  | some (c, fn, _) => if c ∈ cl ∧ m ∉ fn then callF n S dd (consA (.io i) Fx) e else .no
  | none => .no
theorem callF_consA {n : Nat} {S : List EV → Out EV} {dd : List D} {a : Arg} {Fx : M (List Arg)} : callF n S dd (consA a Fx) = bnd Fx fun as e1 => if (a :: as).length + dd.length = n then callA S ((a :: as) ++ dd.map .d) e1 else .no := by
  funext e
  show Out.bind (Out.bind (Fx e) _) _ = Out.bind (Fx e) _
  cases Fx e <;> rfl
theorem lookup_none {m : Str} : ∀ {fs : List (Str × V)}, m ∉ fs.map (·.1) → fs.lookup m = none
  | [], _ => rfl
  | (g, v) :: r, h => by
    have h1 : ¬ m = g := fun z => h (by rw [z]; exact List.mem_cons_self ..)
    have h2 : (m == g) = false := by simpa using h1
    rw [List.lookup, h2]
    exact lookup_none fun z => h (List.mem_cons_of_mem _ z)
theorem do_meth {cl : List Str} {e : Expr} {es : List Expr} {Fx : M (List Arg)} (hcl : ∀ c ∈ cl, ∀ C, X.mg c = some (.ref C) → Cls X.K C ∧ Meth X.K C m f) (hv : PE X (.Name x p) (tVar i)) (F : FnG X.prog X.w X.K X.mg X.base k f fd ps S) (hn : ps.length = n) (hgd : X.A.guards = some []) (hr : Room k X.A) (hb : Binds X.K fd ps ds) (hd : Vals dvs ds)
    (hdd : ∀ G, Reps (rc X) G dd dvs) (hx : ∀ σ, PassesAt (CX X.prog X.w) X σ (WEat W σ)) (ha : DX X W (e :: es) Fx)
    (he : starEach (e :: es) X.env = (false, eval e X.env) :: starEach es X.env := by rfl) (hpl : (backTo pos (starEach es X.env)).any (·.1) = false := by rfl)
    (ht : eval (.Call (.Attribute (.Name x p) m apos) (e :: es) [] pos) X.env = (do
      let ov ← eval (.Name x p) X.env
      standAt apos.atName
      let (f, first) ← holding [ov] (getMethod ov m pl)
      callWith pos f first (backTo pos (starEach (e :: es) X.env)) (backToKw pos (keywordEach [] X.env))) := by rfl) : DO X W (.Call (.Attribute (.Name x p) m apos) (e :: es) [] pos) (methF cl i m n S dd Fx) := by
  subst hn
  constructor
  intro pins s σ H Q I h
  obtain ⟨G, env, fp, ev, q⟩ := h
  unfold methF at q
  cases z : getI i env with
  | none => rw [z] at q; exact q.elim
  | some t =>
    obtain ⟨c, fn, fv⟩ := t
    rw [z] at q
    dsimp only at q
    by_cases hc : c ∈ cl ∧ m ∉ fn
    · rw [if_pos hc] at q
      obtain ⟨a, dx, C, fs, h1, h2, h3, h4, h5, h6, h7⟩ := inst_at ev z
      subst h4
      obtain ⟨t1, t2⟩ := hcl c hc.1 C h2
      have name := hv.run pins s σ H (fun v H1 => v = .ref a ∧ H1 = H) I ⟨.ref a, h1, rfl, rfl⟩
      refine PySem.W.methodCall_KW (pl := pl) (thn name fun u s1 ⟨v, H1, I1, r1, e1, e2⟩ => ?_) ht
      subst e1
      rw [e2] at I1
      obtain rfl : u = Value.ref a := r1
      refine getmeth_ok I1 h3 t1 t2 (lookup_none hc.2) ?_
      have hr2 := tO_bind (P1 := fun G1 as vs => ∃ vs', as = vs' ∧ ArgsR (rc X) σ G1 as (vs)) (F := consA (.io i) Fx) ⟨G, env, fp, ev, q⟩ fun G1 env1 f1 as vs H1 e1 ⟨_, _, p1⟩ q1 => call_go e1 p1 hdd q1
      have h2 : tM (rc X) W (ArgsR (rc X) σ) Fx σ H fun vs H1 => spD (rc X) ps.length S (V.ref a :: (vs ++ dvs)) H1 Q (WEat W σ) := by
        obtain ⟨G1, env1, f1, e1, q1⟩ := hr2
        unfold consA at q1
        exact At.then (P1 := ArgsR (rc X) σ) (P2 := fun G1 as vs => ∃ vs', as = vs' ∧ ArgsR (rc X) σ G1 as vs) e1 q1 fun G2 env2 f2 as vs H2 s2 e2 p2 q2 => by
          exact q2.done e2 ⟨_, rfl, .ref a, vs, rfl, h1, p2⟩
      refine PySem.W.callWith_K (first := [.ref a]) (h₀ := X.base) I.ok.mod.kin t2.kp (thn (ha.run pos pins s1 σ H _ I1 h2) fun us s2 ⟨vs, H2, I2, r, q2⟩ => ⟨I2.kIn, ?_⟩) he hpl
      exact run_fnG (us := .ref a :: us) (vs := .ref a :: vs) F hgd hr hb hd (hx σ) I2 (.cons rfl r) q2
    · rw [if_neg hc] at q
      exact q.elim
theorem do_meth0 {cl : List Str} (hcl : ∀ c ∈ cl, ∀ C, X.mg c = some (.ref C) → Cls X.K C ∧ Meth X.K C m f) (hv : PE X (.Name x p) (tVar i)) (F : FnG X.prog X.w X.K X.mg X.base k f fd ps S) (hn : ps.length = n) (hgd : X.A.guards = some []) (hr : Room k X.A) (hb : Binds X.K fd ps ds) (hd : Vals dvs ds)
    (hdd : ∀ G, Reps (rc X) G dd dvs) (hx : ∀ σ, PassesAt (CX X.prog X.w) X σ (WEat W σ))
    (ht : eval (.Call (.Attribute (.Name x p) m apos) [] [] pos) X.env = (do
      let ov ← eval (.Name x p) X.env
      standAt apos.atName
      let (f, first) ← holding [ov] (getMethod ov m pl)
      callWith pos f first (backTo pos (starEach [] X.env)) (backToKw pos (keywordEach [] X.env))) := by rfl) : DO X W (.Call (.Attribute (.Name x p) m apos) [] [] pos) (methF cl i m n S dd fun e => .ok [] e) := by
  subst hn
  constructor
  intro pins s σ H Q I h
  obtain ⟨G, env, fp, ev, q⟩ := h
  unfold methF at q
  cases z : getI i env with
  | none => rw [z] at q; exact q.elim
  | some t =>
    obtain ⟨c, fn, fv⟩ := t
    rw [z] at q
    dsimp only at q
    by_cases hc : c ∈ cl ∧ m ∉ fn
    · rw [if_pos hc] at q
      obtain ⟨a, dx, C, fs, h1, h2, h3, h4, h5, h6, h7⟩ := inst_at ev z
      subst h4
      obtain ⟨t1, t2⟩ := hcl c hc.1 C h2
      have name := hv.run pins s σ H (fun v H1 => v = .ref a ∧ H1 = H) I ⟨.ref a, h1, rfl, rfl⟩
      refine PySem.W.methodCall_KW (pl := pl) (thn name fun u s1 ⟨v, H1, I1, r1, e1, e2⟩ => ?_) ht
      subst e1
      rw [e2] at I1
      obtain rfl : u = Value.ref a := r1
      refine getmeth_ok I1 h3 t1 t2 (lookup_none hc.2) ?_
      have hr2 := tO_bind (P1 := ArgsR (rc X) σ) (F := consA (.io i) fun e => .ok [] e) ⟨G, env, fp, ev, q⟩ fun G1 env1 f1 as vs H1 e1 p1 q1 => call_go e1 p1 hdd q1
      obtain ⟨G1, env1, f1, e1, q1⟩ := hr2
      have q2 := q1.done e1 (show ArgsR (rc X) σ G1 [.io i] [V.ref a] from ⟨.ref a, [], rfl, h1, rfl⟩)
      exact PySem.W.callWith_K0 (first := [.ref a]) I1.kIn t2.kp (run_fnG (us := [.ref a]) (vs := [.ref a]) F hgd hr hb hd (hx σ) I1 (.cons rfl .nil) q2)
    · rw [if_neg hc] at q
      exact q.elim
/-! a frozen instance -/
def methD (cl : List Str) (m : Str) (n : Nat) (S : List EV → Out EV) (dd : List D) (Fo : M D) (Fx : M (List Arg)) : M EV := bnd Fo fun d e => match d with
  | .ins c fn fv => if c ∈ cl ∧ m ∉ fn then callF n S dd (consA (.d (.ins c fn fv)) Fx) e else .no
  | _ => .no
theorem do_methD {cl : List Str} {e : Expr} {es : List Expr} {Fx : M (List Arg)} (hcl : ∀ c ∈ cl, ∀ C, X.mg c = some (.ref C) → Cls X.K C ∧ Meth X.K C m f) (ho : DE X W o Fo) (F : FnG X.prog X.w X.K X.mg X.base k f fd ps S) (hn : ps.length = n) (hgd : X.A.guards = some []) (hr : Room k X.A) (hb : Binds X.K fd ps ds) (hd : Vals dvs ds)
    (hdd : ∀ G, Reps (rc X) G dd dvs) (hx : ∀ σ, PassesAt (CX X.prog X.w) X σ (WEat W σ)) (ha : DX X W (e :: es) Fx)
    (he : starEach (e :: es) X.env = (false, eval e X.env) :: starEach es X.env := by rfl) (hpl : (backTo pos (starEach es X.env)).any (·.1) = false := by rfl)
    (ht : eval (.Call (.Attribute o m apos) (e :: es) [] pos) X.env = (do
      let ov ← eval o X.env
      standAt apos.atName
      let (f, first) ← holding [ov] (getMethod ov m pl)
      callWith pos f first (backTo pos (starEach (e :: es) X.env)) (backToKw pos (keywordEach [] X.env))) := by rfl) : DO X W (.Call (.Attribute o m apos) (e :: es) [] pos) (methD cl m n S dd Fo Fx) := by
  subst hn
  constructor
  intro pins s σ H Q I h
  have h0 := tO_bind (P1 := Rep (rc X)) h fun G1 env1 f1 d v H1 e1 p1 q1 => (⟨G1, env1, f1, e1, d, p1, q1⟩ : ∃ G1 env1 f1, EnvOk (rc X) G1 H1 env1 σ f1 ∧ ∃ d, Rep (rc X) G1 d v ∧ AtO (rc X) W ((fun (d : D) (e : List EV) => match d with
    | .ins c fn fv => if c ∈ cl ∧ m ∉ fn then callF ps.length S dd (consA (.d (.ins c fn fv)) Fx) e else .no
    | _ => .no) d env1) G1 H1 f1 σ Q)
  refine PySem.W.methodCall_KW (pl := pl) (thn (ho.run pins s σ H _ I h0) fun u s1 ⟨v, H1, I1, r1, G, env, fp, ev, d, p1, q⟩ => ?_) ht
  dsimp only at q
  cases d with
  | ins c fn fv =>
    dsimp only at q
    by_cases hc : c ∈ cl ∧ m ∉ fn
    · rw [if_pos hc] at q
      obtain ⟨a, dx, C, fs, rfl, h2, h3, h4, h5⟩ := p1
      subst h4
      obtain ⟨t1, t2⟩ := hcl c hc.1 C h2
      obtain rfl : u = Value.ref a := r1
      refine getmeth_ok I1 (ev.sub _ _ h3) t1 t2 (lookup_none hc.2) ?_
      rw [callF_consA] at q
      have h2 : tM (rc X) W (ArgsR (rc X) σ) Fx σ H1 fun vs H1 => spD (rc X) ps.length S (V.ref a :: (vs ++ dvs)) H1 Q (WEat W σ) := by
        refine AtO.then (P1 := ArgsR (rc X) σ) ev q fun G2 env2 f2 as vs H2 s2 e2 p2 q2 => ?_
        exact call_go (as := .d (.ins c (fs.map (·.1)) fv) :: as) (vs := V.ref a :: vs) e2 ⟨.ref a, vs, rfl, ⟨a, dx, C, fs, rfl, h2, s2 _ _ h3, rfl, h5.mono s2⟩, p2⟩ hdd q2
      refine PySem.W.callWith_K (first := [.ref a]) (h₀ := X.base) I.ok.mod.kin t2.kp (thn (ha.run pos pins s1 σ H1 _ I1 h2) fun us s2 ⟨vs, H2, I2, r, q2⟩ => ⟨I2.kIn, ?_⟩) he hpl
      exact run_fnG (us := .ref a :: us) (vs := .ref a :: vs) F hgd hr hb hd (hx σ) I2 (.cons rfl r) q2
    · rw [if_neg hc] at q
      exact q.elim
  | _ => exact q.elim
theorem do_methD0 {cl : List Str} (hcl : ∀ c ∈ cl, ∀ C, X.mg c = some (.ref C) → Cls X.K C ∧ Meth X.K C m f) (ho : DE X W o Fo) (F : FnG X.prog X.w X.K X.mg X.base k f fd ps S) (hn : ps.length = n) (hgd : X.A.guards = some []) (hr : Room k X.A) (hb : Binds X.K fd ps ds) (hd : Vals dvs ds)
    (hdd : ∀ G, Reps (rc X) G dd dvs) (hx : ∀ σ, PassesAt (CX X.prog X.w) X σ (WEat W σ))
    (ht : eval (.Call (.Attribute o m apos) [] [] pos) X.env = (do
      let ov ← eval o X.env
      standAt apos.atName
      let (f, first) ← holding [ov] (getMethod ov m pl)
      callWith pos f first (backTo pos (starEach [] X.env)) (backToKw pos (keywordEach [] X.env))) := by rfl) : DO X W (.Call (.Attribute o m apos) [] [] pos) (methD cl m n S dd Fo fun e => .ok [] e) := by
  subst hn
  constructor
  intro pins s σ H Q I h
  have h0 := tO_bind (P1 := Rep (rc X)) h fun G1 env1 f1 d v H1 e1 p1 q1 => (⟨G1, env1, f1, e1, d, p1, q1⟩ : ∃ G1 env1 f1, EnvOk (rc X) G1 H1 env1 σ f1 ∧ ∃ d, Rep (rc X) G1 d v ∧ AtO (rc X) W ((fun (d : D) (e : List EV) => match d with
    | .ins c fn fv => if c ∈ cl ∧ m ∉ fn then callF ps.length S dd (consA (.d (.ins c fn fv)) fun e => .ok [] e) e else .no
    | _ => .no) d env1) G1 H1 f1 σ Q)
  refine PySem.W.methodCall_KW (pl := pl) (thn (ho.run pins s σ H _ I h0) fun u s1 ⟨v, H1, I1, r1, G, env, fp, ev, d, p1, q⟩ => ?_) ht
  dsimp only at q
  cases d with
  | ins c fn fv =>
    dsimp only at q
    by_cases hc : c ∈ cl ∧ m ∉ fn
    · rw [if_pos hc] at q
      obtain ⟨a, dx, C, fs, rfl, h2, h3, h4, h5⟩ := p1
      subst h4
      obtain ⟨t1, t2⟩ := hcl c hc.1 C h2
      obtain rfl : u = Value.ref a := r1
      refine getmeth_ok I1 (ev.sub _ _ h3) t1 t2 (lookup_none hc.2) ?_
      rw [callF_consA] at q
      have q2 := call_go (as := [.d (.ins c (fs.map (·.1)) fv)]) (vs := [V.ref a]) ev ⟨.ref a, [], rfl, ⟨a, dx, C, fs, rfl, h2, h3, rfl, h5⟩, rfl⟩ hdd q
      exact PySem.W.callWith_K0 (first := [.ref a]) I1.kIn t2.kp (run_fnG (us := [.ref a]) (vs := [.ref a]) F hgd hr hb hd (hx σ) I1 (.cons rfl .nil) q2)
    · rw [if_neg hc] at q
      exact q.elim
  | _ => exact q.elim
end
end DL

namespace DL
open PySem PySem.Spec PyProof.Rows L2
variable [LT]
/-! ### own dicts: keys numbers and texts, or tuples of these -/
def keyK : D → Option Key
  | .int i => some (.inl i)
  | .str z => some (.inr z)
  | _ => none
def keysK : List D → Option (List Key)
  | [] => some []
  | d :: r => match keyK d, keysK r with
    | some k, some ks => some (k :: ks)
    | _, _ => none
def keyA : D → Option (Key ⊕ List Key)
  | .tup xs => (keysK xs).map .inr
  | d => (keyK d).map .inl
def eqB (x y : D) : Bool := match keyA x, keyA y with
  | some a, some b => decide (a = b)
  | _, _ => false
theorem keyK_D (k : Key) : keyK (keyD k) = some k := by cases k <;> rfl
theorem keysK_D : ∀ ks : List Key, keysK (ks.map keyD) = some ks
  | [] => rfl
  | k :: ks => by rw [List.map_cons, keysK, keyK_D, keysK_D ks]
theorem keyK_eq {d : D} {k : Key} (h : keyK d = some k) : d = keyD k := by
  cases d <;> first | (cases h; done) | (cases h; rfl)
theorem keysK_eq : ∀ {ds : List D} {ks : List Key}, keysK ds = some ks → ds = ks.map keyD
  | [], ks, h => by cases h; rfl
  | d :: r, ks, h => by
    unfold keysK at h
    cases h1 : keyK d with
    | none => rw [h1] at h; cases h
    | some k =>
      cases h2 : keysK r with
      | none => rw [h1, h2] at h; cases h
      | some l =>
        rw [h1, h2] at h
        cases h
        rw [List.map_cons, ← keyK_eq h1, ← keysK_eq h2]
theorem eqB_k (a b : Key) : eqB (keyD a) (keyD b) = decide (a = b) := by
  cases a <;> cases b <;> simp [eqB, keyA, keyD, keyK]
theorem eqB_t (a b : List Key) : eqB (.tup (a.map keyD)) (.tup (b.map keyD)) = decide (a = b) := by
  simp [eqB, keyA, keysK_D]
theorem rep_keyD {R : RC} {G : Hp} {k : Key} {v : V} (h : Rep R G (keyD k) v) : v = kV k := by cases k <;> exact h
theorem rep_kV {R : RC} {G : Hp} (k : Key) : Rep R G (keyD k) (kV k) := by cases k <;> rfl
theorem reps_keyD {R : RC} {G : Hp} : ∀ {ks : List Key} {vs : List V}, Reps R G (ks.map keyD) vs → vs = ks.map kV
  | [], vs, h => h
  | k :: ks, vs, h => by
    obtain ⟨v, r, rfl, h2, h3⟩ := h
    rw [rep_keyD h2, reps_keyD h3, List.map_cons]
def hasK (ks : List D) (k : D) : Bool := ks.any fun j => eqB j k
def getK : List D → List D → D → Option D
  | j :: ks, x :: ds, k => if eqB j k = true then some x else getK ks ds k
  | _, _, _ => none
def putKs (ks : List D) (k : D) : List D := if hasK ks k = true then ks else ks ++ [k]
def repD : List D → List D → D → D → List D
  | j :: ks, x :: ds, k, d => (if eqB j k = true then d else x) :: repD ks ds k d
  | _, _, _, _ => []
def putDs (ks ds : List D) (k d : D) : List D := if hasK ks k = true then repD ks ds k d else ds ++ [d]
section
variable {κ : Type} [DecidableEq κ] {enc : κ → D} {R : RC} {G : Hp}
theorem has_gen (he : ∀ a b, eqB (enc a) (enc b) = decide (a = b)) (kvs : List (κ × V)) (kk : κ) : hasK (kvs.map fun p => enc p.1) (enc kk) = kvs.any fun kv => decide (kv.1 = kk) := by
  unfold hasK
  rw [List.any_map]
  congr 1
  funext p
  exact he p.1 kk
theorem get_gen (he : ∀ a b, eqB (enc a) (enc b) = decide (a = b)) (kk : κ) : ∀ {kvs : List (κ × V)} {ds : List D}, Reps R G ds (kvs.map (·.2)) →
    (∀ d, getK (kvs.map fun p => enc p.1) ds (enc kk) = some d → ∃ v, valV kvs kk = some v ∧ Rep R G d v) ∧ (getK (kvs.map fun p => enc p.1) ds (enc kk) = none → valV kvs kk = none)
  | [], ds, r => ⟨fun d h => (by cases h), fun _ => rfl⟩
  | p :: kvs, [], r => by cases (show (p :: kvs).map (·.2) = [] from r)
  | p :: kvs, x :: ds, r => by
    obtain ⟨v, w, h1, h2, h3⟩ := r
    cases h1
    obtain ⟨g1, g2⟩ := get_gen he kk h3
    by_cases h : p.1 = kk
    · have e : eqB (enc p.1) (enc kk) = true := by rw [he]; exact decide_eq_true h
      refine ⟨fun d hd => ?_, fun hd => ?_⟩
      · rw [List.map_cons, getK, if_pos e] at hd
        cases hd
        exact ⟨p.2, valV_pos h, h2⟩
      · rw [List.map_cons, getK, if_pos e] at hd
        cases hd
    · have e : ¬ eqB (enc p.1) (enc kk) = true := by rw [he]; simpa using h
      rw [List.map_cons, getK, if_neg e, valV_neg h]
      exact ⟨g1, g2⟩
theorem rep_gen (he : ∀ a b, eqB (enc a) (enc b) = decide (a = b)) (kk : κ) {d : D} {v : V} (rd : Rep R G d v) : ∀ {kvs : List (κ × V)} {ds : List D}, Reps R G ds (kvs.map (·.2)) →
    Reps R G (repD (kvs.map fun p => enc p.1) ds (enc kk) d) ((kvs.map fun kv => if kv.1 = kk then (kv.1, v) else kv).map (·.2))
  | [], ds, r => rfl
  | p :: kvs, [], r => by cases (show (p :: kvs).map (·.2) = [] from r)
  | p :: kvs, x :: ds, r => by
    obtain ⟨u, w, h1, h2, h3⟩ := r
    cases h1
    have ih := rep_gen he kk rd h3
    by_cases h : p.1 = kk
    · have e : eqB (enc p.1) (enc kk) = true := by rw [he]; exact decide_eq_true h
      rw [List.map_cons, List.map_cons, List.map_cons, repD, if_pos e, if_pos h]
      exact ⟨v, _, rfl, rd, ih⟩
    · have e : ¬ eqB (enc p.1) (enc kk) = true := by rw [he]; simpa using h
      rw [List.map_cons, List.map_cons, List.map_cons, repD, if_neg e, if_neg h]
      exact ⟨p.2, _, rfl, h2, ih⟩
theorem put_gen (he : ∀ a b, eqB (enc a) (enc b) = decide (a = b)) (kvs : List (κ × V)) (kk : κ) {d : D} {v : V} {ds : List D} (r : Reps R G ds (kvs.map (·.2))) (rd : Rep R G d v) :
    (L2.putK kvs kk v).map (fun p => enc p.1) = putKs (kvs.map fun p => enc p.1) (enc kk) ∧ Reps R G (putDs (kvs.map fun p => enc p.1) ds (enc kk) d) ((L2.putK kvs kk v).map (·.2)) := by
  unfold putKs putDs L2.putK
  rw [has_gen he]
  by_cases h : (kvs.any fun kv => decide (kv.1 = kk)) = true
  · rw [if_pos h, if_pos h, if_pos h]
    refine ⟨?_, rep_gen he kk rd r⟩
    rw [List.map_map]
    apply List.map_congr_left
    intro p _
    by_cases hp : p.1 = kk <;> simp [hp]
  · rw [if_neg h, if_neg h, if_neg h]
    refine ⟨by simp, ?_⟩
    rw [List.map_append]
    exact r.append (.one rd)
end
/-- slot i's own dict, its values plain data -/
def getE (i : Nat) (e : List EV) : Option (Bool × List D × List D) := match e[i]? with
  | some (.od t ks xs) => (plainL xs).map fun ds => (t, ks, ds)
  | _ => none
theorem DHas.wr {H : Hp} {a : Addr} {t : Bool} {ks : List D} {vs : List V} (h : DHas H a t ks vs) : Wr H a := fun u e => by
  obtain ⟨o, h1, h2, h3⟩ := h.there
  rw [h1] at e
  cases e
  exact ⟨h2, h3⟩
theorem dict_at {R : RC} {G H : Hp} {env : List EV} {σ : L2.St} {f : List Addr} {i : Nat} {t : Bool} {ks ds : List D} (e : EnvOk R G H env σ f) (h : getE i env = some (t, ks, ds)) :
    ∃ a vs, σ[i]? = some (some (.ref a)) ∧ DHas H a t ks vs ∧ Reps R G ds vs ∧ G a = none ∧
      ∀ (o : HO) (ks' ds' : List D) (vs' : List V), DHas (upd H a o) a t ks' vs' → Reps R G ds' vs' → EnvOk R G (upd H a o) (env.set i (.od t ks' (ds'.map .v))) σ f ∧ Stp G H f G (upd H a o) f := by
  unfold getE at h
  split at h
  · rename_i t2 ks2 xs hi
    obtain ⟨ds2, hx, ez⟩ := Option.map_eq_some_iff.mp h
    cases ez
    have hx := plainL_eq hx
    subst hx
    obtain ⟨s0, f1, f2, f3, h1, h2, h3, h4⟩ := e.sl.at hi
    obtain ⟨a, vs, f', e1, e2, e3, e4⟩ := h3
    obtain ⟨r, e5⟩ := plainL_sls e4
    subst e1 e3 e5 h2
    have ga : G a = none := e.fr a (by simp)
    have hσ : σ.set i (some (.ref a)) = σ := by
      apply List.ext_getElem?
      intro j
      by_cases hj : j = i
      · subst hj; rw [List.getElem?_set_self (List.getElem?_eq_some_iff.mp h1).1, h1]
      · rw [List.getElem?_set_ne (Ne.symm hj)]
    refine ⟨a, vs, h1, e2, r, ga, fun o ks' ds' vs' hd r' => ⟨⟨fun c u z => ?_, ?_, e.nd, e.fr, e.nt, tabs_upd e.tb e2.wr⟩, ⟨.refl G, fun c u z hc _ => ?_, fun _ _ z => .inl z, fun _ z => .inl z⟩⟩⟩
    · rw [upd_ne (ne_of_none z ga)]; exact e.sub c u z
    · have sl := h4 G (upd H a o) (.od t ks' (ds'.map .v)) (some (.ref a)) [a] (.refl G) (fun c hc u z => by
        have nd := e.nd
        rw [upd_ne]
        · exact z
        · intro y
          subst y
          rw [List.append_assoc] at nd
          have n1 := List.nodup_append.mp nd
          rcases List.mem_append.mp hc with k | k
          · exact n1.2.2 c k c (List.mem_cons_self ..) rfl
          · exact (List.nodup_append.mp n1.2.1).2.2 c (List.mem_cons_self ..) c k rfl) ⟨a, vs', [], rfl, hd, rfl, Sls.plain r'⟩
      rw [hσ] at sl
      exact sl
    · rw [upd_ne (fun y => hc (by subst y; simp))]; exact z
  · cases h
end DL

namespace DL
open PySem PySem.Spec PyProof.Rows L2
variable [LT]
section
variable {X : Cx} {W : WX} {Pr : Nat → Bool} {a b c : Expr} {es : List Expr} {Fa Fb Fd : M D} {Fs : M (List D)} {pos p p1 p2 p3 apos cpos : Pos} {i kk : Nat} {x : Str}
theorem cons_od {R : RC} {G H : Hp} {env : List EV} {σ : L2.St} {f : List Addr} {a : Addr} {t : Bool} {ks ds : List D} {vs : List V} (e : EnvOk R G H env σ f) (h : DHas H a t ks vs) (hg : G a = none) (hf : a ∉ f) (r : Reps R G ds vs) :
    EnvOk R G H (.od t ks (ds.map .v) :: env) (some (.ref a) :: σ) (a :: f) :=
  ⟨e.sub, ⟨some (.ref a), σ, [a], f, rfl, rfl, ⟨a, vs, [], rfl, h, rfl, Sls.plain r⟩, e.sl⟩, List.nodup_cons.mpr ⟨hf, e.nd⟩, fun c hc => by
    rcases List.mem_cons.mp hc with z | z
    · rw [z]; exact hg
    · exact e.fr c z, e.nt, e.tb⟩
theorem lay_dict {R : RC} {G H : Hp} {env : List EV} {σ : L2.St} {f : List Addr} {t : Bool} {ks ds : List D} {vs : List V} {o : HO} {p : Addr} (e : EnvOk R G H env σ f) (hp : H p = none) (hd : DHas (upd H p o) p t ks vs) (r : Reps R G ds vs) :
    EnvOk R G (upd H p o) (.od t ks (ds.map .v) :: env) (some (.ref p) :: σ) (p :: f) := by
  have gp : G p = none := by
    cases z : G p with
    | none => rfl
    | some u => rw [e.sub _ _ z] at hp; cases hp
  have fp : p ∉ f := fun z => by
    obtain ⟨o, ho, _⟩ := e.sl.there p z
    rw [hp] at ho; cases ho
  exact cons_od (e.beside gp fp (.free hp)) hd gp fp r
/-- {} -/
def dnewO (t : Bool) : M EV := fun e => .ok (.od t [] []) e
theorem do_dnewK : DO X W (.Dict [] [] pos) (dnewO false) := PE.imp pe_dnewK fun σ H Q ⟨G, env, f, e, q⟩ p hp => q (.ref p) G _ (p :: f) (Stp.lay hp) (lay_dict (ds := []) e hp (.k [] upd_same) rfl)
theorem do_dnewT : DO X W (.Dict [] [] pos) (dnewO true) := PE.imp pe_dnewT fun σ H Q ⟨G, env, f, e, q⟩ p hp => q (.ref p) G _ (p :: f) (Stp.lay hp) (lay_dict (ds := []) e hp (.t [] upd_same) rfl)
/-- x[k] = e -/
def dputK (i : Nat) (Fa Fb : M D) : MS := bndS Fa fun d e0 => match getE i e0 with
  | none => .no
  | some _ => bndS Fb (fun k e => match getE i e with
    | some (false, K0, ds) => if (keyK k).isSome = true ∧ K0.length < 16777216 then .nx (e.set i (.od false (putKs K0 k) ((putDs K0 ds k d).map .v))) else .no
    | _ => .no) e0
theorem ds_dputK (hu : X.A.units + 1 < cLine) (hv : PE X (.Name x p) (tVar i)) (ha : DE X W a Fa) (hb : DE X W b Fb) (hs : swapsWith a (some (.Subscript (.Name x p) b p2)) pos.line X.env = pure false := by rfl) :
    DS X W Pr (.Assign [.Subscript (.Name x p) b p2] a pos) (dputK i Fa Fb) := by
  refine PS.imp (ps_dput hu hv hb ha hs) fun D σ H h => ?_
  refine tS_bnd (P := Rep (rc X)) h fun G1 env1 f1 d v H1 e1 r1 q1 => ?_
  cases z : getE i env1 with
  | none => rw [z] at q1; exact q1.elim
  | some t0 =>
    obtain ⟨tt, K0, ds0⟩ := t0
    rw [z] at q1
    obtain ⟨l, vs, h1, h2, h3, h4, _⟩ := dict_at e1 z
    refine ⟨.ref l, h1, ?_⟩
    refine ⟨G1, env1, f1, e1, ?_⟩
    dsimp only at q1
    unfold bndS at q1
    cases y : Fb env1 with
    | no => rw [y] at q1; exact q1
    | ex x e2 => rw [y] at q1; exact fun c dd G' H' f' s' e' x' => q1 c dd σ G' H' f' s' e' (.refl σ) x'
    | ok k e2 =>
      rw [y] at q1
      intro u G2 H2 f2 s2 k2 rk
      have q2 := AtS.step q1 s2 (.refl σ)
      dsimp only at q2
      cases z1 : getE i e2 with
      | none => rw [z1] at q2; exact q2.elim
      | some t1 =>
        obtain ⟨tb, K1, ds⟩ := t1
        rw [z1] at q2
        cases tb with
        | true => exact q2.elim
        | false =>
          dsimp only at q2
          by_cases hc : (keyK k).isSome = true ∧ K1.length < 16777216
          · rw [if_pos hc] at q2
            obtain ⟨kd, hk⟩ := Option.isSome_iff_exists.mp hc.1
            have ek := keyK_eq hk
            subst ek
            obtain ⟨l2, us, k1, k2', k3, k4, k5⟩ := dict_at k2 z1
            rw [h1] at k1
            cases k1
            have ev := rep_keyD rk
            subst ev
            cases k2' with
            | k kvs hh =>
              obtain ⟨p1, p2⟩ := put_gen (R := rc X) (G := G2) eqB_k kvs kd k3 (r1.mono s2.sub)
              obtain ⟨e3, s3⟩ := k5 (.dK (L2.putK kvs kd v)) _ _ _ (.k _ upd_same) p2
              rw [p1] at e3
              exact ⟨l, _, rfl, DPut.k hh (by rw [sizeLine_eq]; simpa using hc.2), q2 σ _ _ f2 s3 e3 (.refl σ)⟩
          · rw [if_neg hc] at q2
            exact q2.elim
/-- x[j, k] = e -/
def dputT (i : Nat) (Fa : M D) (Fs : M (List D)) : MS := bndS Fa fun d e0 => match getE i e0 with
  | none => .no
  | some _ => bndS Fs (fun ks e => match getE i e with
    | some (true, K0, ds) => if (keysK ks).isSome = true ∧ K0.length < 16777216 ∧ ks.length ≤ 16777216 then .nx (e.set i (.od true (putKs K0 (.tup ks)) ((putDs K0 ds (.tup ks) d).map .v))) else .no
    | _ => .no) e0
theorem ds_dputT (hu : X.A.units + 1 < cLine) (hv : PE X (.Name x p) (tVar i)) (ha : DE X W a Fa) (hb : DAs X W es Fs) (hs : swapsWith a (some (.Subscript (.Name x p) (.Tuple es kk p3) p2)) pos.line X.env = pure false := by rfl) :
    DS X W Pr (.Assign [.Subscript (.Name x p) (.Tuple es kk p3) p2] a pos) (dputT i Fa Fs) := by
  refine PS.imp (ps_dput hu hv (pe_tup hb) ha hs) fun D σ H h => ?_
  refine tS_bnd (P := Rep (rc X)) h fun G1 env1 f1 d v H1 e1 r1 q1 => ?_
  cases z : getE i env1 with
  | none => rw [z] at q1; exact q1.elim
  | some t0 =>
    obtain ⟨tt, K0, ds0⟩ := t0
    rw [z] at q1
    obtain ⟨l, vs, h1, h2, h3, h4, _⟩ := dict_at e1 z
    refine ⟨.ref l, h1, ?_⟩
    refine ⟨G1, env1, f1, e1, ?_⟩
    dsimp only at q1
    unfold bndS at q1
    cases y : Fs env1 with
    | no => rw [y] at q1; exact q1
    | ex x e2 => rw [y] at q1; exact fun c dd G' H' f' s' e' x' => q1 c dd σ G' H' f' s' e' (.refl σ) x'
    | ok ks e2 =>
      rw [y] at q1
      intro us G2 H2 f2 s2 k2 rk
      have q2 := AtS.step q1 s2 (.refl σ)
      dsimp only at q2
      cases z1 : getE i e2 with
      | none => rw [z1] at q2; exact q2.elim
      | some t1 =>
        obtain ⟨tb, K1, ds⟩ := t1
        rw [z1] at q2
        cases tb with
        | false => exact q2.elim
        | true =>
          dsimp only at q2
          by_cases hc : (keysK ks).isSome = true ∧ K1.length < 16777216 ∧ ks.length ≤ 16777216
          · rw [if_pos hc] at q2
            obtain ⟨kd, hk⟩ := Option.isSome_iff_exists.mp hc.1
            have ek := keysK_eq hk
            subst ek
            refine ⟨by rw [sizeLine_eq, ← rk.length]; exact hc.2.2, fun q hq => ?_⟩
            have ev := reps_keyD rk
            subst ev
            have al : Alo G2 H2 (upd G2 q (.tup (kd.map kV))) (upd H2 q (.tup (kd.map kV))) := .new k2.sub hq
            have k2a := k2.alo al
            obtain ⟨l2, us, k1, k2', k3, k4, k5⟩ := dict_at k2a z1
            rw [h1] at k1
            cases k1
            cases k2' with
            | t kvs hh =>
              obtain ⟨p1, p2⟩ := put_gen (R := rc X) (enc := fun k => DL.D.tup (k.map keyD)) eqB_t kvs kd k3 ((r1.mono s2.sub).mono al.sub)
              obtain ⟨e3, s3⟩ := k5 (.dT (L2.putK kvs kd v)) _ _ _ (.t _ upd_same) p2
              rw [p1] at e3
              exact ⟨l, _, rfl, DPut.t hh upd_same (by rw [sizeLine_eq]; simpa using hc.2.1), q2 σ _ _ f2 ((al.stp f2).trans s3) e3 (.refl σ)⟩
          · rw [if_neg hc] at q2
            exact q2.elim
end
end DL

namespace DL
open PySem PySem.Spec PyProof.Rows L2
variable [LT]
section
variable {X : Cx} {W : WX} {Pr : Nat → Bool} {a b c : Expr} {es : List Expr} {Fa Fb Fd : M D} {Fs : M (List D)} {pos p p1 p2 p3 apos cpos : Pos} {i kk : Nat} {x : Str}
/-- x.get((j, k), e) -/
def pkGetT (i : Nat) (Fs : M (List D)) (Fd : M D) : M D := fun e0 => match getE i e0 with
  | none => .no
  | some _ => bnd Fs (fun ks e1 => if (keysK ks).isSome = true ∧ ks.length ≤ 16777216 then bnd Fd (fun d e => match getE i e with
    | some (true, K0, ds) => .ok ((getK K0 ds (.tup ks)).getD d) e
    | _ => .no) e1 else .no) e0
theorem de_pkGetT (hu : X.A.units + 1 < cLine) (hv : PE X (.Name x p) (tVar i)) (hb : DAs X W es Fs) (hd : DE X W b Fd) (m : M2 X (.Name x p) "get" apos (.Tuple es kk p3) b cpos) :
    DE X W (.Call (.Attribute (.Name x p) "get" apos) [.Tuple es kk p3, b] [] cpos) (pkGetT i Fs Fd) := by
  refine PE.imp (pe_dget2 hu hv (pe_tup hb) hd m) fun σ H Q ⟨G, env, f, e, q⟩ => ?_
  unfold pkGetT at q
  cases z : getE i env with
  | none => rw [z] at q; exact q.elim
  | some t0 =>
    obtain ⟨tt, K0, ds0⟩ := t0
    rw [z] at q
    obtain ⟨l, vs, h1, h2, h3, h4, _⟩ := dict_at e z
    refine ⟨.ref l, h1, l, rfl, ?_, ?_⟩
    · cases h2 with
      | k kvs h => exact .inl ⟨kvs, .inl h⟩
      | t kvs h => exact .inr ⟨kvs, .inl h⟩
    refine At.then (P1 := Reps (rc X)) e q fun G1 env1 f1 ks us H1 s1 e1 r1 q1 => ?_
    -- the rest is no answer where the key is none
    by_cases hk : (keysK ks).isSome = true ∧ ks.length ≤ 16777216
    · rw [if_pos hk] at q1
      obtain ⟨kd, hk1⟩ := Option.isSome_iff_exists.mp hk.1
      have ek := keysK_eq hk1
      refine ⟨by rw [sizeLine_eq, ← r1.length]; exact hk.2, fun q0 hq => ?_⟩
      have ev : us = kd.map kV := by
        rw [ek] at r1
        exact reps_keyD r1
      subst ev
      have al : Alo G1 H1 (upd G1 q0 (.tup (kd.map kV))) (upd H1 q0 (.tup (kd.map kV))) := .new e1.sub hq
      have e1a := e1.alo al
      have q1a := q1.step (al.stp f1)
      refine At.then (P1 := Rep (rc X)) e1a q1a fun G2 env2 f2 d u H2 s2 e2 r2 q2 => ?_
      cases z1 : getE i env2 with
      | none => rw [z1] at q2; exact q2.elim
      | some t1 =>
        obtain ⟨tb, K1, ds⟩ := t1
        rw [z1] at q2
        cases tb with
        | false => exact q2.elim
        | true =>
          dsimp only at q2
          obtain ⟨l2, us, k1, k2', k3, k4, k5⟩ := dict_at e2 z1
          rw [h1] at k1
          cases k1
          cases k2' with
          | t kvs hh =>
            obtain ⟨g1, g2⟩ := get_gen (R := rc X) (enc := fun k => DL.D.tup (k.map keyD)) eqB_t kd k3
            have hH : H2 q0 = some (.tup (kd.map kV)) := e2.sub _ _ (s2 _ _ upd_same)
            refine ⟨_, DGet.t hh hH, ?_⟩
            rw [ek] at q2
            cases hg : getK (kvs.map fun p => DL.D.tup (p.1.map keyD)) ds (.tup (kd.map keyD)) with
            | none =>
              rw [g2 hg]
              rw [hg] at q2
              exact q2.done e2 r2
            | some dd =>
              obtain ⟨v, hv1, hv2⟩ := g1 dd hg
              rw [hv1]
              rw [hg] at q2
              exact q2.done e2 hv2
    · rw [if_neg hk] at q1
      exact q1.elim
end
end DL

namespace DL
open PySem PySem.Spec PyProof.Rows L2
variable [LT]
/-! ### {k: v for ..} -/
def dcM (vs : List Nat) (t : TgF) (T : M Bool) (Fk Fv : M D) : List D → List D × List D → M (List D × List D)
  | [], acc, e => .ok acc e
  | d :: r, acc, e => match t d e with
    | none => .no
    | some e1 => (match T e1 with
      | .ok false e2 => dcM vs t T Fk Fv r acc (wipeE e2 vs)
      | .ok true e2 => (match Fk e2 with
        | .ok k e3 => (match Fv e3 with
          | .ok v e4 => if (keyK k).isSome = true ∧ acc.1.length < 16777216 then dcM vs t T Fk Fv r (putKs acc.1 k, putDs acc.1 acc.2 k v) (wipeE e4 vs) else .no
          | _ => .no)
        | _ => .no)
      | _ => .no)
/-- the reading's end: the new dict lies at a, one's own -/
def AtD (R : RC) (m : Out (List D × List D)) (G H : Hp) (f : List Addr) (σ : L2.St) (Q : VK) : Prop := match m with
  | .ok acc e => ∀ a kvs G' H' f', Stp G H f G' H' (a :: f') → EnvOk R G' H' e σ f' → H' a = some (.dK kvs) → G' a = none → a ∉ f' → acc.1 = kvs.map (fun p => keyD p.1) → Reps R G' acc.2 (kvs.map (·.2)) → Q (.ref a) H'
  | _ => False
section
variable {R : RC} {W : WX}
theorem dc_read {vs : List Nat} {Pr : Nat → Bool} {t : TgF} {T : M Bool} {Fk Fv : M D} {ds : List D} {J : It} {G1 H1 : Hp} {e0 : List EV} {f1 : List Addr} {σ : L2.St} {Q : VK} (e1 : EnvOk R G1 H1 e0 σ f1) (w : Walk R G1 J ds) (hv : ∀ i, Pr i = false → i ∈ vs)
    (q : AtD R (match dcM vs t T Fk Fv ds ([], []) (wipeE e0 vs) with
      | .ok acc e1 => (match backE e0 e1 vs with
        | some e2 => .ok acc e2
        | none => .no)
      | _ => .no) G1 H1 f1 σ Q) {D : Addr} (hD : H1 D = none) :
    ∃ Wv : Nat → Nat → Hp → Prop, (∃ m, Wv 0 m (upd H1 D (.dK []))) ∧ ∀ i m H, Wv i m H → (J.stop i H ∧ Q (.ref D) H) ∨ (J.go i H ∧ ∃ Nx : Hp → Prop, (∀ H', Nx H' → ∃ m', m' < m ∧ Wv (i + 1) m' H') ∧
      ∀ x H', J.yld i H x H' → tG R Pr t x (L2.wipe σ vs) H' fun σ2 H2 => L2.wipe σ2 vs = L2.wipe σ vs ∧ tM R (fun _ _ _ _ => False) PB T σ2 H2 fun b H3 =>
        if b = true then tM R (fun _ _ _ _ => False) (Rep R) Fk σ2 H3 fun y H4 => tM R (fun _ _ _ _ => False) (Rep R) Fv σ2 H4 fun z H5 => ∃ kvs k, y = kV k ∧ H5 D = some (.dK kvs) ∧ kvs.length < sizeLine ∧ Nx (upd H5 D (.dK (L2.putK kvs k z))) else Nx H3) := by
  -- what is so at each turn
  let Inv1 : Nat → Hp → Prop := fun i H => ∃ G env f acc kvs, EnvOk R G H env (L2.wipe σ vs) f ∧ D ∉ f ∧ G D = none ∧ H D = some (.dK kvs) ∧ acc.1 = kvs.map (fun p => keyD p.1) ∧ Reps R G acc.2 (kvs.map (·.2)) ∧ Stp G1 H1 f1 G H (D :: f) ∧
    AtD R (match dcM vs t T Fk Fv (ds.drop i) acc env with
      | .ok acc e1 => (match backE e0 e1 vs with
        | some e2 => .ok acc e2
        | none => .no)
      | _ => .no) G1 H1 f1 σ Q
  refine ⟨fun i m H => m = ds.length - i ∧ i ≤ ds.length ∧ Inv1 i H, ⟨ds.length, by simp, Nat.zero_le _, ?_⟩, ?_⟩
  · obtain ⟨f2, e2, s2⟩ := e1.wipe vs
    have gD : G1 D = none := by
      cases z : G1 D with
      | none => rfl
      | some u => rw [e1.sub _ _ z] at hD; cases hD
    have fD : D ∉ f2 := fun z => by
      obtain ⟨o, ho, _⟩ := e2.sl.there D z
      rw [hD] at ho; cases ho
    exact ⟨G1, _, f2, ([], []), [], e2.beside gD fD (.free hD), fD, gD, upd_same, rfl, rfl, s2.trans (Stp.lay hD), by rw [List.drop_zero]; exact q⟩
  · rintro i m H ⟨rfl, hi, G, env, f, acc, us, ev, fD, gD, hDl, ka, ra, st, q⟩
    obtain ⟨w1, w2⟩ := w i G H st.sub ev.sub
    by_cases hlt : i < ds.length
    · obtain ⟨go, yl⟩ := w2 ds[i] (by simp [hlt])
      refine .inr ⟨go, fun H' => Inv1 (i + 1) H', fun H' h => ⟨ds.length - (i + 1), by omega, rfl, hlt, h⟩, fun x H' hy => ?_⟩
      obtain ⟨G2, al, rx⟩ := yl x H' hy
      have ap := (al.stp f).apart hDl gD fD
      rw [List.drop_eq_getElem_cons hlt] at q
      simp only [dcM] at q
      cases z : t ds[i] env with
      | none => rw [z] at q; exact q.elim
      | some env1 =>
        rw [z] at q
        dsimp only at q
        refine ⟨G2, env, f, ds[i], env1, ev.alo al, rx, z, fun σ2 f2 e2 s2 k2 => ?_⟩
        have hw := wipe_again hv k2
        refine ⟨hw, ?_⟩
        have st2 := st.trans (((al.stp f).trans s2).cons D)
        have ap2 := s2.apart ap.1 ap.2.1 fD
        refine ⟨G2, env1, f2, e2, ?_⟩
        cases z2 : T env1 with
        | no => rw [z2] at q; exact q.elim
        | ex x e => rw [z2] at q; exact q.elim
        | ok b e3 =>
          rw [z2] at q
          intro b' G3 H3 f3 s3 e4 p
          cases p
          have ap3 := s3.apart ap2.1 ap2.2.1 ap2.2.2
          have st3 := st2.trans (s3.cons D)
          have back : ∀ {G4 H4 : Hp} {f4 : List Addr} {e5 : List EV} {acc' : List DL.D × List DL.D} {us' : List (Key × V)}, EnvOk R G4 H4 e5 σ2 f4 → D ∉ f4 → G4 D = none → H4 D = some (.dK us') → acc'.1 = us'.map (fun p => keyD p.1) → Reps R G4 acc'.2 (us'.map (·.2)) → Stp G1 H1 f1 G4 H4 (D :: f4) →
              AtD R (match dcM vs t T Fk Fv (ds.drop (i + 1)) acc' (wipeE e5 vs) with
                | .ok acc e1 => (match backE e0 e1 vs with
                  | some e2 => .ok acc e2
                  | none => .no)
                | _ => .no) G1 H1 f1 σ Q → Inv1 (i + 1) H4 := fun {G4 H4 f4 e5 acc' us'} k4 fD4 gD4 hD4 ka4 r4 st4 q4 => by
            obtain ⟨f6, e6, s6⟩ := k4.wipe vs
            rw [hw] at e6
            exact ⟨G4, _, f6, acc', us', e6, (fun z => by
              rcases s6.own D z with z | z
              · exact fD4 z
              · exact z.not hD4 (fun _ y => by cases y)), gD4, hD4, ka4, r4, st4.trans (s6.cons D), q4⟩
          cases b with
          | false => exact iteF (back e4 ap3.2.2 ap3.2.1 ap3.1 ka (ra.mono (al.sub.trans (s2.sub.trans s3.sub))) st3 q)
          | true =>
            refine iteT ⟨G3, e3, f3, e4, ?_⟩
            dsimp only at q
            cases z3 : Fk e3 with
            | no => rw [z3] at q; exact q.elim
            | ex x e => rw [z3] at q; exact q.elim
            | ok dk e5 =>
              rw [z3] at q
              intro y G4 H4 f4 s4 e6 p
              have ap4 := s4.apart ap3.1 ap3.2.1 ap3.2.2
              dsimp only at q
              refine ⟨G4, e5, f4, e6, ?_⟩
              cases z4 : Fv e5 with
              | no => rw [z4] at q; exact q.elim
              | ex x e => rw [z4] at q; exact q.elim
              | ok dv e7 =>
                rw [z4] at q
                intro zv G5 H5 f5 s5 e8 pv
                have ap5 := s5.apart ap4.1 ap4.2.1 ap4.2.2
                dsimp only at q
                by_cases hz : (keyK dk).isSome = true ∧ acc.1.length < 16777216
                · rw [if_pos hz] at q
                  obtain ⟨kd, hk⟩ := Option.isSome_iff_exists.mp hz.1
                  have ek := keyK_eq hk
                  subst ek
                  have ra5 := ra.mono (al.sub.trans (s2.sub.trans (s3.sub.trans (s4.sub.trans s5.sub))))
                  obtain ⟨p1, p2⟩ := put_gen (R := R) (G := G5) eqB_k us kd ra5 pv
                  rw [← ka] at p1 p2
                  refine ⟨us, kd, rep_keyD p, ap5.1, by rw [sizeLine_eq]; rw [ka] at hz; simpa using hz.2, ?_⟩
                  exact back (acc' := (putKs acc.1 (keyD kd), putDs acc.1 acc.2 (keyD kd) dv)) (e8.beside ap5.2.1 ap5.2.2 (DHas.k us ap5.1).wr) ap5.2.2 ap5.2.1 upd_same p1.symm p2 (((st3.trans (s4.cons D)).trans (s5.cons D)).trans Stp.write) q
                · rw [if_neg hz] at q
                  exact q.elim
    · have hi : i = ds.length := by omega
      subst hi
      rw [List.drop_length] at q
      simp only [dcM] at q
      cases z : backE e0 env vs with
      | none => rw [z] at q; exact q.elim
      | some e2 =>
        rw [z] at q
        obtain ⟨f2, k2, s2⟩ := e1.back vs st.sub ev z
        refine .inl ⟨w1 (Nat.le_refl _), q D us G H f2 (st.trans (s2.cons D)) k2 hDl gD (fun z => ?_) ka ra⟩
        rcases s2.own D z with z | z
        · exact fD z
        · exact z.not hDl (fun _ y => by cases y)

end
/-- the block, from the slots as they are -/
def dcB (vs : List Nat) (t : TgF) (T : M Bool) (Fk Fv : M D) (ds : List D) : M (List D × List D) := fun e0 => match dcM vs t T Fk Fv ds ([], []) (wipeE e0 vs) with
  | .ok acc e1 => (match backE e0 e1 vs with
    | some e2 => .ok acc e2
    | none => .no)
  | _ => .no
theorem dcB_ex {vs : List Nat} {t : TgF} {T : M Bool} {Fk Fv : M D} {ds : List D} {e0 : List EV} : ∀ x e, dcB vs t T Fk Fv ds e0 ≠ .ex x e := fun x e h => by
  unfold dcB at h
  split at h
  · split at h <;> cases h
  · cases h
def dctO (F : M (List D × List D)) : M EV := bnd F fun acc e => .ok (.od false acc.1 (acc.2.map .v)) e
theorem dc_endO {R : RC} {W : WX} {m : Out (List D × List D)} {G H : Hp} {f : List Addr} {σ : L2.St} {Q : VK} (q : AtO R W (m.bind fun acc e => .ok (.od false acc.1 (acc.2.map .v)) e) G H f σ Q) (hx : ∀ x e, m ≠ .ex x e) : AtD R m G H f σ Q := by
  cases m with
  | no => exact q
  | ex x e => exact absurd rfl (hx x e)
  | ok acc e =>
    intro a kvs G' H' f' s e' h hg hf hk r
    refine q (.ref a) G' H' (a :: f') s (cons_od e' ?_ hg hf r)
    rw [hk]
    exact .k kvs h
section
variable {X : Cx} {W : WX} {pos : Pos}
theorem do_dcN {kx vx tg iter : Expr} {ifs : List Expr} {scope : Scope} {own : List (Str × Nat)} {vs : List Nat} {Fi : M (List D)} {t : TgF} {T : M Bool} {Fk Fv : M D} (hvs : own.map (·.2) = vs) (hc : X.calm = true) (hN : X.N.Nodup) (hi : DI X W tg iter Fi) (ok : BlkOk X.N X.env.scope scope own)
    (hg : ∀ (s : Shared) (H : Hp) (C : Addr) (cl : List (Str × Addr)) (fp : List Addr), DG (X.blk s H scope (compEnvC scope cl C X.env) fp) (prOf (own.map (·.2))) tg t)
    (ht : ∀ (s : Shared) (H : Hp) (C : Addr) (cl : List (Str × Addr)) (fp : List Addr), DTs (X.blk s H scope (compEnvC scope cl C X.env) fp) Wno ifs T)
    (hk : ∀ (s : Shared) (H : Hp) (C : Addr) (cl : List (Str × Addr)) (fp : List Addr), DE (X.blk s H scope (compEnvC scope cl C X.env) fp) Wno kx Fk)
    (he : ∀ (s : Shared) (H : Hp) (C : Addr) (cl : List (Str × Addr)) (fp : List Addr), DE (X.blk s H scope (compEnvC scope cl C X.env) fp) Wno vx Fv) (hs : ∀ x, foldedSetIterable iter X.env x = pure x := by intro _; rfl) :
    DO X W (.DictComp kx vx [⟨tg, iter, ifs, 0⟩] scope pos) (dctO (bnd Fi (dcB vs t T Fk Fv))) := by
  subst hvs
  refine PE.imp (pe_dc (g := tG (rc X) (prOf (own.map fun (p : Str × Nat) => p.2)) t) (tt := tM (rc X) Wno PB T) (tk := tM (rc X) Wno (Rep (rc X)) Fk) (tv := tM (rc X) Wno (Rep (rc X)) Fv) hc hN hi ok hg ht hk he hs) fun σ H Q h => ?_
  have h : tO (rc X) W (bnd Fi fun ds e => (dcB (own.map (·.2)) t T Fk Fv ds e).bind fun acc e => .ok (.od false acc.1 (acc.2.map .v)) e) σ H Q := by
    obtain ⟨G, env, f, e, q⟩ := h
    refine ⟨G, env, f, e, ?_⟩
    have q : AtO (rc X) W (((Fi env).bind (dcB (own.map (·.2)) t T Fk Fv)).bind fun acc e => .ok (.od false acc.1 (acc.2.map .v)) e) G H f σ Q := q
    show AtO (rc X) W ((Fi env).bind fun ds e => (dcB (own.map (·.2)) t T Fk Fv ds e).bind fun acc e => .ok (.od false acc.1 (acc.2.map .v)) e) G H f σ Q
    cases z : Fi env with
    | ok a e => rw [z] at q; exact q
    | ex x e => rw [z] at q; exact q
    | no => rw [z] at q; exact q
  refine tO_bind (P1 := fun G ds (J : It) => Walk (rc X) G J ds) h fun G1 env1 f1 ds J H1 e w q => fun D hD => ?_
  exact dc_read (R := rc X) e w (fun i => prOf_in) (dc_endO q dcB_ex) hD
end
end DL

namespace DL
open PySem PySem.Spec PyProof.Rows L2
variable [LT]
/-! ### nothing is told of a statement -/
theorem ds_any {X : Cx} {W : WX} {Pr : Nat → Bool} {s : Stmt} : DS X W Pr s (fun _ => .no) := ⟨fun _ _ _ _ _ _ ⟨_, _, _, _, q⟩ => q.elim⟩
theorem dss_any {X : Cx} {W : WX} {Pr : Nat → Bool} {s : List Stmt} : DSs X W Pr s (fun _ => .no) := ⟨fun _ _ _ _ _ _ ⟨_, _, _, _, q⟩ => q.elim⟩
theorem de_any {X : Cx} {W : WX} {e : Expr} : DE X W e (fun _ => .no) := ⟨fun _ _ _ _ _ _ ⟨_, _, _, _, q⟩ => q.elim⟩
theorem do_any {X : Cx} {W : WX} {e : Expr} : DO X W e (fun _ => .no) := ⟨fun _ _ _ _ _ _ ⟨_, _, _, _, q⟩ => q.elim⟩
/-! ### C(f = e), C an own exception class -/
section
variable {X : Cx} {C : Addr} {f x : Str} {e : Expr} {te : TE} {p pos : Pos}
theorem xmk_kw (T : ExI X.prog X.K C f) (gs : X.mg "super" = none) (hr : Room 1 X.A) {pins : List (Addr × Obj)} {s1 : Shared} {σ : L2.St} {H1 : Hp} {Q : XK} {y : V} {u : Value} (I1 : Inv X pins σ H1 s1) (r1 : RelV y u)
    (q : ∀ dx, H1 dx = none → Q (.ref C) (some dx) (upd H1 dx (.xd [(f, y)]))) : wpAny (model X.prog X.w) X.A (call (.ref C) [] [(f, u)]) (MkP X pins σ Q) X.xe s1 := by
  obtain ⟨B, ini, Bn, newId, bmB, fI, T⟩ := T
  obtain ⟨nm, qn, N, bs, bm, sn, sub, ab, col, dd, k0, k1, k2, k3, k5, hC, hbm⟩ := T.cls
  obtain ⟨iniN, bmN, F⟩ := T.bx.new
  obtain ⟨mb, b1, b2⟩ := I1.mod.blt
  have g1 := I1.mod.glob.keeps I1.bk
  have g2 := b1.keeps I1.bk
  have g3 := I1.mod.nolimit.keeps I1.bk
  have kin := I1.kIn
  have bare := I1.bare
  obtain ⟨hp, g, dr, tk, os⟩ := s1
  have up : ∀ b o, hp.get? b = some o → ((hp.push (PySem.W.kdv_tup [])).push (PySem.HandSPX.excO C hp.objs.size)).get? b = some o := fun b o e => Heap.get?_push_of_some _ (Heap.get?_push_of_some _ e)
  have it : ((hp.push (PySem.W.kdv_tup [])).push (PySem.HandSPX.excO C hp.objs.size)).get? (hp.objs.size + 1) = some (PySem.HandSPX.excO C hp.objs.size) := by heap_get
  have old : ∀ {b : Addr} {o : Obj}, hp.get? b = some o → b ≠ hp.objs.size + 1 := fun {b o} e => Nat.ne_of_lt (Nat.lt_succ_of_lt (Heap.lt_size e))
  refine wpAny_call (xcls_call F (hbm.ord T.bx) (kin _ _ hC) (PySem.W.looks_findIn kin T.iC) (fun z => PySem.W.bind_fn kin z T.tI) (by rw [sizeLine_eq]; exact Nat.zero_le _) ?_)
  refine xini_run T (kin.keeps up) (fun b o e => old (kin _ _ e)) ((hr.make C [] [(f, u)]).depth) (g3.keeps up) (g1.keeps up) gs (g2.keeps up) ((b2 _ (by decide)).trans (by decide +kernel)) it (fun h' tk' dx t1 k ge ne hx hn => ?_) (.inr rfl)
  refine ⟨rfl, ?_⟩
  obtain ⟨G, gk, gn⟩ := restrict h' fun b => decide (b ≠ hp.objs.size + 1)
  have gk2 : ∀ b, b ≠ hp.objs.size + 1 → G.get? b = h'.get? b := fun b hb => gk b (decide_eq_true hb)
  have ga : G.get? (hp.objs.size + 1) = none := gn _ (by simp)
  have geq : hp.objs.size ≤ dx := by
    refine Nat.le_trans ?_ ge
    rw [Heap.size_push, Heap.size_push]
    exact Nat.le_trans (Nat.le_succ _) (Nat.le_succ _)
  have J := I1.laid (t' := tk') (a := dx) (o := .xd [(f, y)]) (h' := G) (fun b o e => (gk2 b (old e)).trans (k b o (old e) (up b o e))) geq
    ⟨_, hn.at fun o z => (gk2 dx ne).trans z, relO_one r1⟩
  refine ⟨hp.objs.size + 1, _, _, ⟨G, g, dr, tk', os⟩, upd H1 dx (.xd [(f, y)]), .ref C, some dx, rfl, J, fun b o z => ?_, ga, hx, ⟨rfl, rfl⟩, rfl, rfl, ?_, rfl, bare, raises_own T.exC T.tyC, q dx (I1.hok.fresh geq)⟩
  · by_cases hb : b = hp.objs.size + 1
    · rw [hb, ga] at z
      cases z
    · exact (gk2 b hb).symm.trans z
  · rw [upd_ne ne.symm]
    exact I1.hok.fresh (Nat.le_succ _)
theorem pmk_xk {kpos : Pos} (T : ExI X.prog X.K C f) (gs : X.mg "super" = none) (hr : Room 1 X.A) (hg : Gl X x) (hm : X.mg x = some (.ref C)) (he : PE X e te) (hdb : (x == ("__debug__" : Str)) = false := by decide)
    (hall : (backToKw pos (keywordEach [⟨some f, e, kpos⟩] X.env)).all (·.1.isSome) = true := by rfl) (hks : (backToKw pos (keywordEach [⟨some f, e, kpos⟩] X.env)).filterMap (·.1) = [f] := by rfl)
    (hpl : ((backTo pos (starEach [] X.env)).any (·.1) || (backToKw pos (keywordEach [⟨some f, e, kpos⟩] X.env)).any (·.1.isNone)) = false := by rfl) : PMk X (.Call (.Name x p) [] [⟨some f, e, kpos⟩] pos) (tMk C f te) := by
  intro pins s σ H Q I h
  have T0 := T
  obtain ⟨B, ini, Bn, newId, bmB, fI, T1⟩ := T
  refine wpAny_Call_Name_kw (ld_glob I hg hm ?_ hdb)
  refine PySem.W.callWith_KW0 (h₀ := X.base) I.ok.mod.kin T1.kC hall ?_ hpl
  refine thn ((pk_cons (nm := some f) (kpos := kpos) he pk_nil).run pos pins s σ H (fun xs H1 => match xs with
    | [y] => ∀ dx, H1 dx = none → Q (.ref C) (some dx) (upd H1 dx (.xd [(f, y)]))
    | _ => False) I h) ?_
  rintro ws s2 ⟨zs, H2, I2, rz, q2⟩
  rw [hks]
  cases rz with
  | nil => exact q2.elim
  | cons r1 r2 =>
    cases r2 with
    | nil => exact ⟨I2.kIn, xmk_kw T0 gs hr I2 r1 q2⟩
    | cons _ _ => exact q2.elim
/-- the exception as a value, on the ground -/
theorem pe_mk {t : L2.St → Hp → XK → Prop} {e : Expr} (h : PMk X e t) : PE X e (fun σ H Q => t σ H fun cls d H' => ∀ a, H' a = none → Q (.ref a) (upd H' a (xo a cls d))) := by
  refine ⟨fun pins s σ H Q I q => ?_⟩
  refine thn (h pins s σ H _ I q) ?_
  rintro u s1 ⟨a, oe, vs, sI, H', cls, d, rfl, J, k, hne, ha, hz, hd, h1, na, os, ag, r, q⟩
  exact ⟨.ref a, upd H' a (xo a cls d), landT (B := sI.heap) J (fun b u z _ => z) (fun b u z => k b u z) (Heap.UpToSlots.of_keeps k) os ag hne na (xo_ok ha hz hd), rfl, q a na⟩
end
section
variable {X : Cx} {W : WX} {C : Addr} {f x : Str} {a : Expr} {Fa : M D} {p pos : Pos}
def mkxF (x f : Str) (Fa : M D) : M D := bnd Fa fun d e => .ok (.exc x f d) e
theorem mkx_read (hm : X.mg x = some (.ref C)) {σ : L2.St} {H : Hp} {Q : VK} (h : tM (rc X) W (Rep (rc X)) (mkxF x f Fa) σ H Q) :
    tMk C f (tM (rc X) W (Rep (rc X)) Fa) σ H fun cls d H' => ∀ a, H' a = none → Q (.ref a) (upd H' a (xo a cls d)) := by
  refine tM_then (P1 := Rep (rc X)) h fun G1 env1 f1 d v H1 e r q => fun dx hd a ha => ?_
  have al1 : Alo G1 H1 (upd G1 dx (.xd [(f, v)])) (upd H1 dx (.xd [(f, v)])) := .new e.sub hd
  have al2 : Alo (upd G1 dx (.xd [(f, v)])) (upd H1 dx (.xd [(f, v)])) (upd (upd G1 dx (.xd [(f, v)])) a (xo a (.ref C) (some dx))) (upd (upd H1 dx (.xd [(f, v)])) a (xo a (.ref C) (some dx))) := .new al1.inn ha (fun _ z => by cases z)
  have al := al1.trans al2
  have ne : dx ≠ a := fun z => by
    rw [z, upd_same] at ha
    cases ha
  exact q (.ref a) _ _ f1 (al.stp f1) (e.alo al) ⟨a, C, dx, v, rfl, hm, upd_same, by rw [upd_ne ne]; exact upd_same, r.mono al.sub⟩
theorem de_mkx (T : ExI X.prog X.K C f) (gs : X.mg "super" = none) (hr : Room 1 X.A) (hg : Gl X x) (hm : X.mg x = some (.ref C)) (ha : DE X W a Fa) (hdb : (x == ("__debug__" : Str)) = false := by decide)
    (hs : starEach [a] X.env = (false, eval a X.env) :: starEach [] X.env := by rfl) (hpl : (backTo pos (starEach [] X.env)).any (·.1) = false := by rfl) : DE X W (.Call (.Name x p) [a] [] pos) (mkxF x f Fa) :=
  PE.imp (pe_mk (pmk_x T gs hr hg hm ha hdb hs hpl)) fun σ H Q h => mkx_read hm h
theorem de_mkxk {kpos : Pos} (T : ExI X.prog X.K C f) (gs : X.mg "super" = none) (hr : Room 1 X.A) (hg : Gl X x) (hm : X.mg x = some (.ref C)) (ha : DE X W a Fa) (hdb : (x == ("__debug__" : Str)) = false := by decide)
    (hall : (backToKw pos (keywordEach [⟨some f, a, kpos⟩] X.env)).all (·.1.isSome) = true := by rfl) (hks : (backToKw pos (keywordEach [⟨some f, a, kpos⟩] X.env)).filterMap (·.1) = [f] := by rfl)
    (hpl : ((backTo pos (starEach [] X.env)).any (·.1) || (backToKw pos (keywordEach [⟨some f, a, kpos⟩] X.env)).any (·.1.isNone)) = false := by rfl) : DE X W (.Call (.Name x p) [] [⟨some f, a, kpos⟩] pos) (mkxF x f Fa) :=
  PE.imp (pe_mk (pmk_xk T gs hr hg hm ha hdb hall hks hpl)) fun σ H Q h => mkx_read hm h
end
end DL

namespace PySem.W
open PySem PySem.Spec PySem.Calls PyProof.Rows
section
variable {M : Model} {K : Frag}
theorem exm_tupn5 {c1 c2 c3 c4 c5 cls : Value} {tp e : Addr} {b : Bool} {h : Heap} (X : K.In h) (LT : Looks M h (typeOf (.ref e)) cls) (hp : h.get? tp = some { cls := .type "tuple", data := .seq [c1, c2, c3, c4, c5].toArray }) (hx : exmAny K cls [c1, c2, c3, c4, c5] = some b) :
    Looks M h (excMatches (.ref e) (.ref tp)) b := by
  intro A Q E s k0 q
  obtain ⟨hh, g, d, tk, os⟩ := s
  have k : ∀ b o, h.get? b = some o → hh.get? b = some o := k0
  have LT0 : Looks M h (isInstance (.ref tp) (.type "tuple")) true := ((Looks.ld hp).andThen .now).andThen (Looks.of_pure isSubtype_tuple_tuple)
  obtain ⟨b1, d1, x1, y1, z1⟩ := exmAny_cons hx
  obtain ⟨e1, S1⟩ := exm_cls (M := M) X x1
  have e1 := e1.keeps k
  have S1 := S1.keeps k
  obtain ⟨b2, d2, x2, y2, z2⟩ := exmAny_cons y1
  obtain ⟨e2, S2⟩ := exm_cls (M := M) X x2
  have e2 := e2.keeps k
  have S2 := S2.keeps k
  obtain ⟨b3, d3, x3, y3, z3⟩ := exmAny_cons y2
  obtain ⟨e3, S3⟩ := exm_cls (M := M) X x3
  have e3 := e3.keeps k
  have S3 := S3.keeps k
  obtain ⟨b4, d4, x4, y4, z4⟩ := exmAny_cons y3
  obtain ⟨e4, S4⟩ := exm_cls (M := M) X x4
  have e4 := e4.keeps k
  have S4 := S4.keeps k
  obtain ⟨b5, d5, x5, y5, z5⟩ := exmAny_cons y4
  obtain ⟨e5, S5⟩ := exm_cls (M := M) X x5
  have e5 := e5.keeps k
  have S5 := S5.keeps k
  have wn : some false = some d5 := y5
  cases wn
  have LT := LT.keeps k
  have LT0 := LT0.keeps k
  have hp' := k _ _ hp
  subst z1 z2 z3 z4 z5
  unfold excMatches
  refine wpAny_bind (LT0.at ?_)
  dsimp only
  rw [if_pos rfl]
  first
    | refine wpAny_bind (wpAny_seqItems hp' rfl ?_)
    | refine wpAny_bind (wpAny_bind (wpAny_seqItems hp' rfl (wpAny_pure ?_)))
  dsimp only [Option.getD_some, Option.getD]
  cases b1 <;> cases b2 <;> cases b3 <;> cases b4 <;> cases b5 <;> ((repeat (first | simp only [List.forIn_cons, List.forIn_nil, Bool.not_true, Bool.false_eq_true, if_false, if_true] | lk)); exact q)
end
end PySem.W
namespace DL
open PySem PySem.Spec PyProof.Rows L2
variable [LT]
theorem test_tup5 {X : Cx} {x1 x2 x3 x4 x5 : Str} {c1 c2 c3 c4 c5 : Value} {p1 p2 p3 p4 p5 pos : Pos} {k : Nat} (h1 : Names X x1 c1) (h2 : Names X x2 c2) (h3 : Names X x3 c3) (h4 : Names X x4 c4) (h5 : Names X x5 c5) : TestX X (.Tuple [.Name x1 p1, .Name x2 p2, .Name x3 p3, .Name x4 p4, .Name x5 p5] k pos) (fun cls => PySem.W.exmAny X.K cls [c1, c2, c3, c4, c5]) := by
  intro pn a σ H s cls b Q E I LT e q
  have nm : ∀ {x : Str} {c : Value} {np : Pos} {Q' : Value → Shared → Prop}, Names X x c → Q' c s → wpAny (model X.prog X.w) (X.A.mark (some (.ref a))) (eval (.Name x np) X.env) Q' E s := fun hc z => by
    obtain ⟨hg, hdb, hm | ⟨hm, hv, hn⟩⟩ := hc
    · exact ld_glob (X := X.suite a pn) I hg hm z hdb
    · exact ld_blt (X := X.suite a pn) I hg hm hv z hn hdb
  refine wpAny_Tuple_spliced ?_
  refine PyProof.Rows.spliced_more (nm h1 ?_)
  refine PyProof.Rows.spliced_more (nm h2 ?_)
  refine PyProof.Rows.spliced_more (nm h3 ?_)
  refine PyProof.Rows.spliced_more (nm h4 ?_)
  refine PyProof.Rows.spliced_more (nm h5 ?_)
  refine PyProof.Rows.spliced_none ⟨by rw [sizeLine_eq]; show 5 ≤ 16777216; decide, ?_⟩
  have hp : (s.heap.push { cls := .type "tuple", data := .seq [c1, c2, c3, c4, c5].toArray }).get? s.heap.objs.size = some { cls := .type "tuple", data := .seq [c1, c2, c3, c4, c5].toArray } := Heap.get?_push_size _ rfl
  have up : ∀ b o, s.heap.get? b = some o → (s.heap.push { cls := .type "tuple", data := .seq [c1, c2, c3, c4, c5].toArray }).get? b = some o := fun b o z => Heap.get?_push_of_some _ z
  have LM := PySem.W.exm_tupn5 (M := model X.prog X.w) (I.kIn.keeps up) (LT.keeps up) hp e
  exact LM.here (q _ s.toks up)
end DL

namespace DL
open PySem PySem.Spec PyProof.Rows L2
variable [LT]
/-! ### texts: repeated, of numbers, split, joined -/
def repS (z : Str) (k : Int) : Str := if k < 1 then Str.empty else if (k == 1 || z.length == 0) = true then z else ⟨(List.replicate k.toNat z.cps).foldl (· ++ ·) #[]⟩
def rMulS : R2 := fun x y H Q => ∃ z k, x = .str z ∧ y = .int k ∧ -1000000 ≤ k ∧ k ≤ 1000000 ∧ z.length ≤ 1000000 ∧ z.length * k.toNat ≤ sizeLine ∧ (repS z k).length ≤ sizeLine ∧ Q (.str (repS z k)) H
section
variable {X : Cx} {W : WX} {a b : Expr} {Fa Fb : M D} {pos p apos : Pos}
theorem op_mulS : OpR X (binaryOp .Mult) rMulS := by
  intro pins s σ H x y v u Q I rx ry h
  obtain ⟨z, k, rfl, rfl, h1, h2, h3, h4, h5, q⟩ := h
  obtain ⟨t, rfl⟩ := rx
  obtain ⟨t2, rfl⟩ := ry
  refine P.mul_str ?_ (fun hk _ => ?_) (fun _ _ => ?_) ?_
  · rw [decide_eq_false (by omega), decide_eq_false (by omega)]; rfl
  · intro hz
    have h5 : (z.length : Int) * k ≤ 1000000 * 1000000 := by
      have e1 : (z.length : Int) ≤ 1000000 := by omega
      exact Int.mul_le_mul e1 h2 (by omega) (by decide)
    have h6 : (2 ^ 63 - 1) / k < (z.length : Int) := hz
    have h7 := (Int.ediv_lt_iff_lt_mul (show (0 : Int) < k by omega)).mp h6
    omega
  · unfold Builtin.Str.tooLong
    simpa using h4
  · unfold repS at q h5
    by_cases c1 : k < 1
    · rw [if_pos c1] at q h5 ⊢
      exact ⟨h5, .str _, H, I.tok _, ⟨_, rfl⟩, q⟩
    · rw [if_neg c1] at q h5 ⊢
      by_cases c2 : (k == 1 || z.length == 0) = true
      · rw [if_pos c2] at q h5 ⊢
        exact ⟨.str _, H, I, ⟨_, rfl⟩, q⟩
      · rw [if_neg c2] at q h5 ⊢
        exact ⟨h5, .str _, H, I.tok _, ⟨_, rfl⟩, q⟩
def gMulA (x y : D) : Option D := match x, y with
  | .str z, .int k => if -1000000 ≤ k ∧ k ≤ 1000000 ∧ z.length ≤ 1000000 ∧ z.length * k.toNat ≤ 16777216 ∧ (repS z k).length ≤ 16777216 then some (.str (repS z k)) else none
  | x, y => gMul x y
theorem od_mulA : OpD (rc X) (fun x y H Q => rMulS x y H Q ∨ rMulU x y H Q) gMulA := by
  intro G H x y dx dy d Q s rx ry e q
  unfold gMulA at e
  split at e
  · rename_i z k
    split at e
    · rename_i h
      cases e
      obtain ⟨h1, h2, h3, h4, h5⟩ := h
      exact .inl ⟨z, k, rx, ry, h1, h2, h3, by rw [sizeLine_eq]; exact h4, by rw [sizeLine_eq]; exact h5, q _ G H (.refl s) rfl⟩
    · cases e
  · exact .inr (od_mul G H x y dx dy d Q s rx ry e q)
theorem de_mulA (ha : DE X W a Fa) (hb : DE X W b Fb) : DE X W (.BinOp a .Mult b pos) (bin2 gMulA Fa Fb) := de_bin (op_mulS.or op_mulU) od_mulA ha hb
/-! str(i) -/
def gStr : List D → Option D
  | [.int i] => if i.natAbs.log2 < 1920 then some (.str (toString i)) else none
  | _ => none
theorem cd_str : CallD (rc X) (fun xs H Q => ∃ i, xs = [.int i] ∧ i.natAbs.log2 < 1920 ∧ Q (.str (toString i)) H) gStr := by
  intro G H vs ds d Q s r e q
  unfold gStr at e
  split at e
  · rename_i i
    split at e
    · rename_i h
      cases e
      obtain ⟨v, rfl, r1⟩ := r.one'
      exact ⟨i, by rw [show v = .int i from r1], h, q _ G H (.refl s) rfl⟩
    · cases e
  · cases e
/-! x.split(y), x.join(y) -/
def gSplit (z : Str) (y : D) : Option D := match y with
  | .str b => if (b.length == 0) = false ∧ z.length + 2 ≤ 16777216 then some (.lst ((Txt.split z b).map .str)) else none
  | _ => none
def strsOf : List D → Option (List Str)
  | [] => some []
  | .str z :: r => (strsOf r).map fun l => z :: l
  | _ => none
def gJoin (z : Str) (y : D) : Option D := match itemsOf y with
  | some ds => (match strsOf ds with
    | some ys => if (ys.map (·.length)).sum + ys.length * z.length ≤ 16777216 then some (.str (Txt.join z ys)) else none
    | none => none)
  | none => none
/-- a text's method of one argument -/
def strM (g : Str → D → Option D) (Fa Fb : M D) : M D := bnd Fa fun x e0 => match x with
  | .str z => bnd Fb (fun y => ofO (g z y)) e0
  | _ => .no
theorem strM_read {g : Str → D → Option D} {r : V → List V → Hp → VK → Prop} (hr : ∀ (G H : Hp) (z : Str) (y : V) (dy d : D) (Q : VK), Sub G H → Rep (rc X) G dy y → g z dy = some d → (∀ v G' H', Alo G H G' H' → Rep (rc X) G' d v → Q v H') → r (.str z) [y] H Q)
    {σ : L2.St} {H : Hp} {Q : VK} (h : tM (rc X) W (Rep (rc X)) (strM g Fa Fb) σ H Q) : tM1 r (tM (rc X) W (Rep (rc X)) Fa) (tM (rc X) W (Rep (rc X)) Fb) σ H Q := by
  refine tM_then (P1 := Rep (rc X)) h fun G1 env1 f1 d v H1 e r1 q => ?_
  cases d with
  | str z =>
    have ev : v = .str z := r1
    subst ev
    refine ⟨⟨z, rfl⟩, ?_⟩
    refine At.then (P1 := Rep (rc X)) e q fun G2 env2 f2 dy y H2 s2 e2 r2 q2 => ?_
    obtain ⟨d, hd, q3⟩ := q2.fin e2
    exact hr G2 H2 z y dy d Q e2.sub r2 hd q3
  | _ => exact q.elim
theorem strs_reps {R : RC} {G : Hp} : ∀ ys : List Str, Reps R G (ys.map .str) (ys.map V.str)
  | [] => rfl
  | y :: ys => ⟨.str y, ys.map V.str, rfl, rfl, strs_reps ys⟩
theorem strsOf_vals {R : RC} {G : Hp} : ∀ {ds : List D} {ys : List Str} {vs : List V}, strsOf ds = some ys → Reps R G ds vs → vs = ys.map V.str
  | [], ys, vs, h, r => by
    cases h
    exact r
  | .str z :: ds, ys, vs, h, r => by
    obtain ⟨l, h1, rfl⟩ := Option.map_eq_some_iff.mp (show (strsOf ds).map _ = some ys from h)
    obtain ⟨v, w, rfl, r1, r2⟩ := r
    rw [show v = .str z from r1, strsOf_vals h1 r2]
    rfl
  | .non :: _, _, _, h, _ | .bl _ :: _, _, _, h, _ | .int _ :: _, _, _, h, _ | .ty _ :: _, _, _, h, _ | .gl _ :: _, _, _, h, _ | .tup _ :: _, _, _, h, _ | .lst _ :: _, _, _, h, _ | .scr _ :: _, _, _, h, _ | .exc _ _ _ :: _, _, _, h, _ | .ins _ _ _ :: _, _, _, h, _ | .pr _ _ :: _, _, _, h, _ => by cases h
theorem de_split (ha : DE X W a Fa) (hb : DE X W b Fb) (hs : starEach [b] X.env = [(false, eval b X.env)] := by rfl) (hbase : attributeBase a "split" X.env (eval a X.env) = eval a X.env := by rfl) (hline : (apos.endLine == pos.line) = true := by rfl) :
    DE X W (.Call (.Attribute a "split" apos) [b] [] pos) (strM gSplit Fa Fb) := PE.imp (pe_split ha hb hs hbase hline) fun σ H Q h => strM_read (fun G H z y dy d Q s ry e q => by
  unfold gSplit at e
  split at e
  · rename_i b
    split at e
    · rename_i hc
      cases e
      refine ⟨z, b, rfl, by rw [show y = .str b from ry], hc.1, by rw [sizeLine_eq]; exact hc.2, fun p hp => ?_⟩
      exact q _ _ _ (.new s hp) ⟨p, _, rfl, upd_same, strs_reps _⟩
    · cases e
  · cases e) h
theorem de_join (ha : DE X W a Fa) (hb : DE X W b Fb) (hs : starEach [b] X.env = [(false, eval b X.env)] := by rfl) (hbase : attributeBase a "join" X.env (eval a X.env) = eval a X.env := by rfl) (hline : (apos.endLine == pos.line) = true := by rfl) :
    DE X W (.Call (.Attribute a "join" apos) [b] [] pos) (strM gJoin Fa Fb) := PE.imp (pe_join ha hb hs hbase hline) fun σ H Q h => strM_read (fun G H z y dy d Q s ry e q => by
  unfold gJoin at e
  cases h1 : itemsOf dy with
  | none => rw [h1] at e; cases e
  | some ds =>
    rw [h1] at e
    dsimp only at e
    cases h2 : strsOf ds with
    | none => rw [h2] at e; cases e
    | some ys =>
      rw [h2] at e
      dsimp only at e
      split at e
      · rename_i hc
        cases e
        cases dy with
        | lst xs =>
          cases h1
          obtain ⟨p, vs, rfl, h3, h4⟩ := ry
          have ev := strsOf_vals h2 h4
          subst ev
          exact ⟨z, p, ys, rfl, rfl, .inl (SqL.of (s _ _ h3)), hc, q _ G H (.refl s) rfl⟩
        | tup xs =>
          cases h1
          obtain ⟨p, vs, rfl, h3, h4⟩ := ry
          have ev := strsOf_vals h2 h4
          subst ev
          exact ⟨z, p, ys, rfl, rfl, .inr (s.tpA h3).sq, hc, q _ G H (.refl s) rfl⟩
        | scr ns =>
          cases h1
          cases ns with
          | nil =>
            cases h2
            obtain ⟨p, rfl, h3⟩ := ry
            exact ⟨z, p, [], rfl, rfl, .inl (s.sqL h3), hc, q _ G H (.refl s) rfl⟩
          | cons n ns => cases h2
        | _ => cases h1
      · cases e) h
end
end DL

namespace DL
open PySem PySem.Spec PyProof.Rows L2
variable [LT]
/-! ### except (A, B, ..) -/
def mtAny : List (Str → Option Bool) → Str → Option Bool
  | [], _ => some false
  | m :: r, x => match m x, mtAny r x with
    | some a, some b => some (a || b)
    | _, _ => none
section
variable {K : PySem.W.Frag} {mg : Str → Option Value}
theorem mtAny_nil : ∀ x b, mtAny [] x = some b → ∀ C, mg x = some (.ref C) → PySem.W.exmAny K (.ref C) [] = some b := fun x b h C _ => h
theorem mtAny_cons {m : Str → Option Bool} {r : List (Str → Option Bool)} {c : Value} {cs : List Value} (h1 : ∀ x b, m x = some b → ∀ C, mg x = some (.ref C) → PySem.W.exmOne K (.ref C) c = some b) (h2 : ∀ x b, mtAny r x = some b → ∀ C, mg x = some (.ref C) → PySem.W.exmAny K (.ref C) cs = some b) :
    ∀ x b, mtAny (m :: r) x = some b → ∀ C, mg x = some (.ref C) → PySem.W.exmAny K (.ref C) (c :: cs) = some b := fun x b h C hC => by
  unfold mtAny at h
  cases e1 : m x with
  | none => rw [e1] at h; cases h
  | some a1 =>
    cases e2 : mtAny r x with
    | none => rw [e1, e2] at h; cases h
    | some b1 =>
      rw [e1, e2] at h
      cases h
      unfold PySem.W.exmAny
      rw [h1 x a1 e1 C hC, h2 x b1 e2 C hC]
end
end DL

namespace DL
open PySem PySem.Spec PyProof.Rows L2
variable [LT]
/-! ### defaults of keyword-only parameters -/
section
variable {R : RC} {x qual : Str} {params : Arguments} {body : List Stmt} {scope : Scope} {kws : List (Str × V)} {f : Addr} {fd : FuncData} {ps : List Str} {n : Nat} {ks : List Str} {ms : List (Str × V)} {dm : List D}
/-- ms: those that lack, dm: their values; p: where the parameters behind the first n stand in dm ++ the keywords' values -/
theorem FunD.kbd0 (p : List Nat) (F : FunD R.K x qual params body scope [] kws f fd) (hk : kws ≠ []) (hms : ∀ q ∈ ms, q ∈ kws) (hdm : ∀ G, Reps R G dm (ms.map (·.2)))
    (h : ∀ (D : Addr) (doc pm : Value) (an : Option Addr) (cdv ct : Value) (us mv ws : List Value), us.length = n → mv.length = ms.length → ws.length = ks.length →
      KwChain D ((ms.map (·.1)).zip mv) (bindArgs (PySem.W.fnOf x qual params body scope .none (.ref D) doc pm an cdv ct) ⟨us, ks.zip ws⟩) (ps.zip (permL p us (mv ++ ws)))) :
    ∃ g, KBd R fd ps n ks g (fun vs zs => permL p vs (ms.map (·.2) ++ zs)) (fun ds es => permL p ds (dm ++ es)) := by
  obtain ⟨oc, od, dV, kV, doc, pm, an, cdv, ct, osl, rfl, lk, hcd, hD, hK⟩ := F.ex
  rcases hD with ⟨_, rfl⟩ | ⟨e, _⟩
  · rcases hK with e | ⟨D, rfl, hq⟩
    · exact absurd e hk
    · obtain ⟨mv, hl, rk, hks⟩ := kwd_vals (ms := ms) fun q hm => hq q (hms q hm)
      refine ⟨fun us ws => permL p us (mv ++ ws), fun s us ws X l1 l2 => ?_, fun r1 r2 => permL_vals p r1 (rk.append r2), fun {G ds es vs zs} r1 r2 => permL_reps p r1 ((hdm G).append r2)⟩
      exact BindsTo.of_looks fun M => KwChain.looks X hks (h D doc pm an cdv ct us mv ws l1 hl l2)
  · exact absurd rfl e
end
end DL

namespace PySem.W
open PySem PySem.Spec PySem.Calls PyProof.Rows
section
variable {prog : Program} {w : World} {A : Around} {E : Value → Shared → Prop} {s : Shared} {K : Frag} {x C f : Addr} {ox : Obj} {od : Option Obj} {b tb : Value}
theorem ifBound_B {M : Model} {name : Str} {id : String} {T : String} {args : List Value} {Q : Option Value → Shared → Prop} (X : K.In s.heap) (I : InstAt s.heap x ox C od) (hs : findIn K (.ref C) name = some (some (.builtin id))) (S : Slot T name id)
    (h : wpAny M A (call (.builtin id) (.ref x :: args)) (fun v => Q (some v)) E s) : wpAny M A (callSpecialIfBound? (.ref x) name args) Q E s := by
  simp only [callSpecialIfBound?, bindSpecialIfBound?]
  refine wpAny_holding (wpAny_bind (wpAny_bind (wpAny_bind (I.type.here ((looks_findIn X hs).here ?_)))))
  simp only [S.bind]
  refine wpAny_bind (wpAny_askSetting (wpAny_ite ?_))
  have fin : wpAny M A (call (.builtin id) ([.ref x] ++ args) >>= fun v => pure (some v)) Q E s := wpAny_bind (wpAny_mono h (fun v s' h' => wpAny_pure h') fun _ _ h' => h')
  split
  · exact wpAny_bind (wpAny_pure (wpAny_pure fin))
  · exact wpAny_tryCatch (wpAny_bind (wpAny_pure (wpAny_pure fin)))
theorem check_ne {M : Model} {Q : Unit → Shared → Prop} (X : K.In s.heap) (I : InstAt s.heap x ox C od) (ho : subIn K (.ref C) (.type "object") = some true) (q : Q () s) : wpAny M A (checkBuiltinCall "object.__ne__" ⟨[.ref x, b], []⟩) Q E s := by
  have L : Looks M s.heap (isInstance (.ref x) (.type "object")) true := I.type.andThen (looks_subIn X ho)
  have ha := F.cmpArgs_ne (.ref x) b
  simp only [checkBuiltinCall, F.cmpKind_ne, F.cmpSplit_ne]
  refine wpAny_bind ?_
  refine wpAny_bind ?_
  refine I.type.here ((looks_subIn X ho).here ?_)
  simp only [Bool.not_true, Bool.false_eq_true, if_false]
  cases hsig : Manifest.signature? "object.__ne__" with
  | none => exact wpAny_pure q
  | some sig =>
    simp only [argsOk, hsig] at ha
    have h2 : Bind.checkArgs "object.__ne__" sig ⟨[.ref x, b], []⟩ = pure () := ha
    show wpAny M A (Bind.checkArgs "object.__ne__" sig ⟨[.ref x, b], []⟩) Q E _
    rw [h2]
    exact wpAny_pure q
/-- a != b by the class's own == -/
theorem cmpNe_K {Q : Value → Shared → Prop} (hu : A.units + 1 < cLine) (X : K.In s.heap) (I : InstAt s.heap x ox C od) (hb : Looks (model prog w) s.heap (typeOf b) tb) (hn : notFirst K C tb = true)
    (hs : findIn K (.ref C) "__ne__" = some (some (.builtin "object.__ne__"))) (ho : subIn K (.ref C) (.type "object") = some true) (he : findIn K (.ref C) "__eq__" = some (some (.ref f))) (hf : isFn K (.ref f) = true)
    (h : wpAny (model prog w) A.in1 (call (.ref f) [.ref x, b]) (fun v s' => ∃ r, v = .bool r ∧ Q (.bool (!r)) s') E s) : wpAny (model prog w) A (richCompare .NotEq (.ref x) b) Q E s := by
  have one : wpAny (model prog w) A (tryCompare (.ref x) (cmpInfo .NotEq).2.1 b) (fun r s' => ∃ v, r = some v ∧ Q v s') E s := by
    unfold tryCompare
    refine wpAny_bind (ifBound_B X I hs F.cmp_object.ne (wpAny_call (codeAny_call_builtin F.cmp_object.ne.plain F.cmpEntry_ne (check_ne X I ho ?_))))
    unfold Builtin.«object.__ne__»
    have hu1 : A.in1.units < cLine := hu
    repeat (first | (with_reducible refine wpAny_cRoomFor hu1 ?_) | (with_reducible refine ifBound_K X I he hf (wpAny_mono h (fun v s' hv => ?_) fun _ _ e => e); obtain ⟨r, rfl, q⟩ := hv; dsimp only) | wp_step)
    exact ⟨_, rfl, q⟩
  unfold richCompare
  simp only [oneThing_ref]
  refine wpAny_holding (wpAny_bind (wpAny_cRoomFor (by omega) ?_))
  refine wpAny_bind (I.type.here (wpAny_bind (hb.here ?_)))
  split
  · rename_i q
    have e : subIn K tb (.ref C) = some false := by
      rcases Bool.or_eq_true_iff.mp hn with e | e
      · rw [beq_iff_eq.mp e] at q; simp at q
      · exact beq_iff_eq.mp e
    refine wpAny_bind ((looks_subIn X e).here ?_)
    simp only [Bool.false_eq_true, if_false]
    refine wpAny_bind (wpAny_mono one (fun r s' z => ?_) fun _ _ e => e)
    obtain ⟨v, rfl, hq⟩ := z
    exact wpAny_pure hq
  · refine wpAny_bind (wpAny_pure ?_)
    simp only [Bool.false_eq_true, if_false]
    refine wpAny_bind (wpAny_mono one (fun r s' z => ?_) fun _ _ e => e)
    obtain ⟨v, rfl, hq⟩ := z
    exact wpAny_pure hq
end
end PySem.W

namespace DL
open PySem PySem.Spec PyProof.Rows L2
variable [LT]
/-! ### a != b, a == b of instances by their class's own == -/
/-- what the class must have -/
structure EqI (K : PySem.W.Frag) (C f : Addr) : Prop where
  ne : PySem.W.findIn K (.ref C) "__ne__" = some (some (.builtin "object.__ne__"))
  ob : PySem.W.subIn K (.ref C) (.type "object") = some true
  eq : Meth K C "__eq__" f
section
variable {X : Cx} {k : Nat} {f : Addr} {fd : FuncData} {ps : List Str} {S : List EV → Out EV}
theorem run_eqI {pins : List (Addr × Obj)} {σ : L2.St} {H : Hp} {s : Shared} {Q : VK} {a b : Addr} (A : Around) (fr : A.frames = X.A.frames) (F : FnG X.prog X.w X.K X.mg X.base k f fd ps S) (hg : A.guards = some []) (hr : Room k A) (hb : Binds X.K fd ps []) (I : Inv X pins σ H s)
    (h : spD (rc X) ps.length S [.ref a, .ref b] H Q (fun _ _ _ => False)) : wpAny (model X.prog X.w) A (call (.ref f) [.ref a, .ref b]) (EP X pins σ Q) X.xe s := by
  have e0 : Env0 X.prog X.w X.K X.mg X.base A X.stack s H := by
    have e := I.env0
    exact ⟨by rw [fr]; exact e.frames, e.mod, e.bs, e.bsz, e.funs, e.frf, e.hok, e.bare⟩
  have r2 : Vals [V.ref a, V.ref b] [Value.ref a, Value.ref b] := .cons rfl (.cons rfl .nil)
  have hl : [Value.ref a, Value.ref b].length = ps.length := h.1
  have bd : BindsTo s fd ⟨[.ref a, .ref b], []⟩ (ps.zip [.ref a, .ref b]) := by
    have z := hb s [.ref a, .ref b] I.kIn (by rw [List.append_nil]; exact hl)
    rwa [List.append_nil] at z
  refine wpAny_call (codeAny_mono (F.run A X.stack s H ⟨[.ref a, .ref b], []⟩ [.ref a, .ref b] [.ref a, .ref b] Q _ hg hr e0 bd r2 h) fun r s' hq => ?_)
  cases r with
  | error e => exact passNo pins H s e s' I hq
  | ok fl =>
    cases fl with
    | ret u => exact I.after hq
    | next => exact hq.elim
    | brk => exact hq.elim
    | cont => exact hq.elim
/-- two instances of a class of the list -/
def rEqI (X : Cx) (cl : List Str) (n : Nat) (S : List EV → Out EV) (ng : Bool) : R2 := fun x y H Q => ∃ (c : Str) (C a b dx dy : Addr) (fs gs : List (Str × V)), c ∈ cl ∧ X.mg c = some (.ref C) ∧ x = .ref a ∧ y = .ref b ∧ H a = some (.ins C dx fs) ∧ H b = some (.ins C dy gs) ∧
  spD (rc X) n S [.ref a, .ref b] H (fun v H' => ∃ r, v = .bl r ∧ Q (.bl (ng != r)) H') (fun _ _ _ => False)
theorem op_neI {cl : List Str} (hcl : ∀ c ∈ cl, ∀ C, X.mg c = some (.ref C) → EqI X.K C f) (F : FnG X.prog X.w X.K X.mg X.base k f fd ps S) (hg : X.A.guards = some []) (hr : Room (k + 1) X.A) (hb : Binds X.K fd ps []) : OpR X (compareOp .NotEq) (rEqI X cl ps.length S true) := by
  intro pins s σ H x y v u Q I rx ry h
  obtain ⟨c, C, a, b, dx, dy, fs, gs, hc, hm, rfl, rfl, ha, hb2, h⟩ := h
  cases rx
  cases ry
  have E := hcl c hc C hm
  obtain ⟨mA, J, _⟩ := ins_get I.hok ha
  obtain ⟨mB, J', _⟩ := ins_get I.hok hb2
  obtain ⟨od, J, _⟩ := J.look
  obtain ⟨od', J', _⟩ := J'.look
  refine PySem.W.cmpNe_K (tb := .ref C) (by have := hr.un; omega) I.kIn J J'.type (by simp [PySem.W.notFirst]) E.ne E.ob E.eq.at_ E.eq.fn ?_
  refine thn (run_eqI X.A.in1 rfl F hg hr.in1 hb I h) fun w s' hw => ?_
  obtain ⟨z, H', I', rz, r, rfl, q⟩ := hw
  cases rz
  exact ⟨r, rfl, .bl _, H', I', by cases r <;> rfl, q⟩
theorem op_eqI {cl : List Str} (hcl : ∀ c ∈ cl, ∀ C, X.mg c = some (.ref C) → EqI X.K C f) (F : FnG X.prog X.w X.K X.mg X.base k f fd ps S) (hg : X.A.guards = some []) (hr : Room (k + 1) X.A) (hb : Binds X.K fd ps []) : OpR X (compareOp .Eq) (rEqI X cl ps.length S false) := by
  intro pins s σ H x y v u Q I rx ry h
  obtain ⟨c, C, a, b, dx, dy, fs, gs, hc, hm, rfl, rfl, ha, hb2, h⟩ := h
  cases rx
  cases ry
  have E := hcl c hc C hm
  obtain ⟨mA, J, _⟩ := ins_get I.hok ha
  obtain ⟨mB, J', _⟩ := ins_get I.hok hb2
  obtain ⟨od, J, _⟩ := J.look
  obtain ⟨od', J', _⟩ := J'.look
  obtain ⟨m, hF⟩ := I.fr
  refine PySem.W.cmp_K (op := .Eq) (tb := .ref C) (by have := hr.un; omega) hF I.ok.mod.kin J J'.type (by simp [PySem.W.notFirst]) E.eq.at_ E.eq.fn ?_
  refine thn (run_eqI X.A rfl F hg (hr.mono (by omega)) hb I h) fun w s' hw => ?_
  obtain ⟨z, H', I', rz, r, rfl, q⟩ := hw
  cases rz
  exact ⟨.bl _, H', I', by cases r <;> rfl, q⟩
/-- what it tells -/
def eqM (cl : List Str) (S : List EV → Out EV) (ng : Bool) (x y : D) : M D := fun e => match x, y with
  | .ins c _ _, .ins c2 _ _ => if c ∈ cl ∧ c2 = c then (match callA S [.d x, .d y] e with
    | .ok (.v (.bl b)) e1 => .ok (.bl (ng != b)) e1
    | _ => .no) else .no
  | _, _ => .no
theorem at_eqM {R : RC} {W : WX} {G H : Hp} {e : List EV} {σ : L2.St} {f : List Addr} {cl : List Str} {ng : Bool} {dx dy : D} {x y : V} {Q : VK} (ev : EnvOk R G H e σ f) (rx : Rep R G dx x) (ry : Rep R G dy y) (q : At R W (Rep R) (eqM cl S ng dx dy e) G H f σ Q) :
    ∃ (c : Str) (C a b ax bx : Addr) (fs gs : List (Str × V)), c ∈ cl ∧ R.mg c = some (.ref C) ∧ x = .ref a ∧ y = .ref b ∧ H a = some (.ins C ax fs) ∧ H b = some (.ins C bx gs) ∧
      spD R 2 S [.ref a, .ref b] H (fun v H' => ∃ r, v = .bl r ∧ Q (.bl (ng != r)) H') (fun _ _ _ => False) := by
  unfold eqM at q
  split at q
  · rename_i c fn fv c2 fn2 fv2
    split at q
    · rename_i hc
      obtain ⟨hc, rfl⟩ := hc
      have rx0 := rx
      have ry0 := ry
      obtain ⟨a, ax, C, fs, rfl, h1, h2, h3, h4⟩ := rx
      obtain ⟨b, bx, C2, gs, rfl, k1, k2, k3, k4⟩ := ry
      rw [h1] at k1
      cases k1
      refine ⟨_, C, a, b, ax, bx, fs, gs, hc, h1, rfl, rfl, ev.sub _ _ h2, ev.sub _ _ k2, ?_⟩
      refine call_read (W := fun _ _ _ _ => False) ev (as := [.d (.ins c2 fn fv), .d (.ins c2 fn2 fv2)]) (⟨_, _, rfl, rx0, _, _, rfl, ry0, rfl⟩) rfl ?_
      split at q
      · rename_i bb e1 z
        rw [z]
        intro v G' H' f' s k
        obtain ⟨s0, sr, f0, fr, h1, h2, h3, h4⟩ := k.sl
        cases h1
        obtain ⟨rfl, w, hw, r⟩ := h3
        cases hw
        cases r
        subst h2
        exact ⟨bb, rfl, q (.bl (ng != bb)) G' H' _ s ⟨k.sub, by simpa using h4, by simpa using k.nd, fun a ha => k.fr a (by simpa using ha), k.nt, k.tb⟩ rfl⟩
      · exact q.elim
    · exact q.elim
  · exact q.elim
def bin2M (g : D → D → M D) (Fa Fb : M D) : M D := bnd Fa fun x => bnd Fb fun y => g x y
theorem tM_eq {W : WX} {cl : List Str} {ng : Bool} {Fa Fb : M D} {σ : L2.St} {H : Hp} {Q : VK} (h : tM (rc X) W (Rep (rc X)) (bin2M (eqM cl S ng) Fa Fb) σ H Q) : tOp (rEqI X cl 2 S ng) (tM (rc X) W (Rep (rc X)) Fa) (tM (rc X) W (Rep (rc X)) Fb) σ H Q := by
  refine (fun z => z) (tM_bind (P1 := Rep (rc X)) h) |> fun ⟨G, env, f, e, q⟩ => ⟨G, env, f, e, ?_⟩
  have mono : ∀ {m : Out D} {G H f} {Q Q' : VK}, (∀ v H', Q v H' → Q' v H') → At (rc X) W (Rep (rc X)) m G H f σ Q → At (rc X) W (Rep (rc X)) m G H f σ Q' := fun {m G H f Q Q'} w z => by
    cases m with
    | ok a e => exact fun b G' H' f' s e' p => w _ _ (z b G' H' f' s e' p)
    | ex x e => exact z
    | no => exact z
  refine mono (fun x H1 ⟨G1, env1, f1, dx, e1, p1, q1⟩ => ?_) q
  refine (fun z => z) (tM_bind2 (P1 := Rep (rc X)) (J := fun G' => Rep (rc X) G' dx x) (fun G' s => p1.mono s) e1 q1) |> fun ⟨G, env, f, e, q⟩ => ⟨G, env, f, e, ?_⟩
  refine mono (fun y H2 ⟨G2, env2, f2, dy, e2, p2, j2, q2⟩ => ?_) q
  exact at_eqM e2 j2 p2 q2
section
variable {W : WX} {a b : Expr} {Fa Fb : M D} {pos : Pos} {cl : List Str}
theorem dt_neI (hcl : ∀ c ∈ cl, ∀ C, X.mg c = some (.ref C) → EqI X.K C f) (F : FnG X.prog X.w X.K X.mg X.base k f fd ps S) (hn : ps.length = 2) (hg : X.A.guards = some []) (hr : Room (k + 1) X.A) (hb : Binds X.K fd ps []) (ha : DE X W a Fa) (hb2 : DE X W b Fb)
    (hm : behindInMarks .NotEq b = false) : DT X W (.Compare a [.NotEq] [b] pos) (asB (bin2M (eqM cl S true) Fa Fb)) :=
  PT.imp (pt_cmpR (op_neI hcl F hg hr hb) ha hb2 hm) fun σ H Q h => by
    obtain ⟨G, env, f, e, q⟩ := tM_tB h
    have z := tM_eq ⟨G, env, f, e, q⟩
    rw [← hn] at z
    exact z
theorem dt_eqI (hcl : ∀ c ∈ cl, ∀ C, X.mg c = some (.ref C) → EqI X.K C f) (F : FnG X.prog X.w X.K X.mg X.base k f fd ps S) (hn : ps.length = 2) (hg : X.A.guards = some []) (hr : Room (k + 1) X.A) (hb : Binds X.K fd ps []) (ha : DE X W a Fa) (hb2 : DE X W b Fb)
    (hm : behindInMarks .Eq b = false) : DT X W (.Compare a [.Eq] [b] pos) (asB (bin2M (eqM cl S false) Fa Fb)) :=
  PT.imp (pt_cmpR (op_eqI hcl F hg hr hb) ha hb2 hm) fun σ H Q h => by
    obtain ⟨G, env, f, e, q⟩ := tM_tB h
    have z := tM_eq ⟨G, env, f, e, q⟩
    rw [← hn] at z
    exact z
end
end
end DL

namespace DL
open PySem PySem.Spec PyProof.Rows L2
variable [LT]
/-! ### isinstance(x, C), x an instance of C itself -/
structure IsO (K : PySem.W.Frag) (C : Addr) : Prop where
  cl : Cls K C
  ha : PySem.W.findIn K (.ref C) "__class__" = some (some (.builtin "object.__class__"))
  hn : PySem.W.specialIn K (.builtin "object.__class__") "__get__" = some (some (.builtin "getset_descriptor.__get__"))
  htk : PySem.W.takesIn K (.builtin "object.__class__") = some true
  hm : PySem.W.mroIn K C (.type "object") = some true
def gIsO (cl : List Str) : List D → Option D
  | [.ins c _ _, .gl c'] => if c ∈ cl ∧ c' = c then some (.bl true) else none
  | _ => none
section
variable {X : Cx}
theorem cd_isO {cl : List Str} (hcl : ∀ c ∈ cl, ∀ C, X.mg c = some (.ref C) → IsO X.K C) : CallD (rc X) (rIsi X.K) (gIsO cl) := by
  intro G H ds vs d Q s r e q
  unfold gIsO at e
  split at e
  · rename_i c fn fv c'
    split at e
    · rename_i hc
      obtain ⟨hc, rfl⟩ := hc
      cases e
      obtain ⟨v, v', rfl, p1, p2⟩ := r.two'
      obtain ⟨a, ax, C, fs, rfl, h1, h2, h3, h4⟩ := p1
      obtain ⟨a', h5, rfl⟩ := p2
      rw [h1] at h5
      cases h5
      obtain ⟨t1, t2, t3, t4, t5⟩ := hcl _ hc C h1
      exact ⟨.ref a, .ref C, .ref C, .ref C, true, rfl, .own C, .base (.ins (s _ _ h2) t1 t2 t3 t4 t5), by unfold PySem.W.kitOne; rw [if_pos (by simp)], q _ G H (.refl s) rfl⟩
    · cases e
  · cases e
end
/-! ### x.extend(e), e a plain list -/
section
variable {X : Cx} {W : WX} {Pr : Nat → Bool} {a b : Expr} {Fa Fb : M D} {pos p p1 p2 p3 cpos apos : Pos} {i : Nat} {x : Str}
def extS (i : Nat) (Fa : M D) : MS := fun e => match getO i e with
  | none => .no
  | some _ => bndS Fa (fun d e1 => match getO i e1, d with
    | some ds, .lst es => if ds.length + es.length ≤ 16777216 then .nx (putO i (ds ++ es) e1) else .no
    | _, _ => .no) e
theorem ds_extend (hv : PE X (.Name x p) (tVar i)) (ha : DE X W a Fa) (hs : starEach [a] X.env = (false, eval a X.env) :: starEach [] X.env := by rfl) (hbase : attributeBase (.Name x p) "extend" X.env (eval (.Name x p) X.env) = eval (.Name x p) X.env := by rfl)
    (hfew : ((backTo cpos (starEach [a] X.env)).all (fun x => !x.1) && (backToKw cpos (keywordEach [] X.env)).all (fun x => x.1.isSome)
      && decide ([a].length + ([] : List Keyword).length + (if ([] : List Keyword).isEmpty then 0 else 1) < 30)) = true := by rfl)
    (hline : (apos.endLine == cpos.line) = true := by rfl) (hplain : (backTo cpos (starEach [] X.env)).any (·.1) = false := by rfl) (hsw : swapsWith (.Call (.Attribute (.Name x p) "extend" apos) [a] [] cpos) none pos.line X.env = pure false := by rfl) :
    DS X W Pr (.Expr (.Call (.Attribute (.Name x p) "extend" apos) [a] [] cpos) pos) (extS i Fa) := by
  have pe := pe_bm PySem.F.plainAttrs_list PySem.F.slot_list_extend PySem.F.type_list_extend mt_extend (cpos := cpos) (apos := apos) hv (pa_cons ha pa_nil hs) hbase hfew hline hs hplain
  refine PS.imp (ps_expr pe hsw) fun D σ H ⟨G, env, f, e, q⟩ => ?_
  unfold extS at q
  cases z : getO i env with
  | none => rw [z] at q; exact q.elim
  | some ds0 =>
    rw [z] at q
    obtain ⟨l, vs, h1, h2, h3, h4, _⟩ := own_at e z
    refine ⟨.ref l, h1, .inl ⟨rfl, vs, SqL.of h2⟩, ?_⟩
    refine tS_bnd' (P := Rep (rc X)) e q fun G1 env1 f1 d v H1 e1 r1 q1 => ?_
    cases z1 : getO i env1 with
    | none => simp only [z1] at q1; exact q1.elim
    | some ds =>
      simp only [z1] at q1
      obtain ⟨l2, us, k1, k2, k3, k4, k5⟩ := own_at e1 z1
      rw [h1] at k1
      cases k1
      cases d with
      | lst es =>
        dsimp only at q1
        by_cases hz : ds.length + es.length ≤ 16777216
        · rw [if_pos hz] at q1
          obtain ⟨bb, zs, rfl, r2, r3⟩ := r1
          obtain ⟨e2, s2⟩ := k5 (ds ++ es) (us ++ zs) (k3.append r3)
          exact ⟨l, bb, us, zs, rfl, rfl, k2, e1.sub _ _ r2, by rw [sizeLine_eq, ← k3.length, ← r3.length]; exact hz, q1 σ _ _ f1 s2 e2 (.refl σ)⟩
        · rw [if_neg hz] at q1
          exact q1.elim
      | _ => exact q1.elim
end
/-! ### x.replace(y, z, 1) within a written list: behind a written text a token is out -/
section
variable {X : Cx} {W : WX} {a b : Expr} {es : List Expr} {Fa Fb : M D} {Fs : M (List D)} {pos : Pos}
def DET (X : Cx) (W : WX) (e : Expr) (F : M D) : Prop := PET X e (tM (rc X) W (Rep (rc X)) F)
def DATs (X : Cx) (W : WX) (es : List Expr) (F : M (List D)) : Prop := PAT X es (tM (rc X) W (Reps (rc X)) F)
theorem DATs.of (h : DAs X W es Fs) : DATs X W es Fs := fun pos pins s σ H Q _ I q => h.run pos pins s σ H Q I q
theorem DET.of (h : DE X W a Fa) : DET X W a Fa := fun pins s σ H Q _ I q => h.run pins s σ H Q I q
theorem tM_cons {σ : L2.St} {H : Hp} {Q : List V → Hp → Prop} (h : tM (rc X) W (Reps (rc X)) (consM Fa Fs) σ H Q) : tCons (tM (rc X) W (Rep (rc X)) Fa) (tM (rc X) W (Reps (rc X)) Fs) σ H Q := by
  refine tM_then (P1 := Rep (rc X)) h fun G1 env1 f1 d v H1 e p q => ?_
  refine At.then (P1 := Reps (rc X)) e q fun G2 env2 f2 ds vs H2 s e2 p2 q2 => ?_
  exact q2.done e2 ⟨v, vs, rfl, p.mono s, p2⟩
theorem dat_cons (ha : DET X W a Fa) (hr : DATs X W es Fs) (hs : starEach (a :: es) X.env = (false, eval a X.env) :: starEach es X.env := by rfl) : DATs X W (a :: es) (consM Fa Fs) := by
  intro pos pins s σ H Q h0 I h
  have h := tM_cons h
  rw [hs]
  show wpAny _ _ (spliced ((false, eval a X.env) :: backTo pos (starEach es X.env))) _ _ s
  refine Calls.spliced_cons (wpAny_mono (PySem.wpAny_toks (ha pins s σ H _ h0 I h)) (fun u s1 q => ?_) fun _ _ z => z.2)
  obtain ⟨hk, x, H1, I1, r1, q1⟩ := q
  exact thn (hr pos pins s1 σ H1 _ (Nat.le_trans h0 hk) I1 q1) fun us s2 ⟨xs, H2, I2, r2, q2⟩ => ⟨x :: xs, H2, I2, .cons r1 r2, q2⟩
/-- a first item that ends in a written text -/
theorem da_one {op : Operator} {r : R2} {g : D → D → Option D} {z : Str} {j : Nat} {cp : Pos} (ho : OpR X (binaryOp op) r) (hg : OpD (rc X) r g) (ha : DE X W a Fa) (hr : DATs X W es Fs)
    (hs : starEach (.BinOp a op (.Constant (.str z) j cp) pos :: es) X.env = (false, eval (.BinOp a op (.Constant (.str z) j cp) pos) X.env) :: starEach es X.env := by rfl) :
    DAs X W (.BinOp a op (.Constant (.str z) j cp) pos :: es) (consM (bin2 g Fa (cst (.str z))) Fs) := by
  refine ⟨fun bpos pins s σ H Q I h => ?_⟩
  have h := tM_cons h
  rw [hs]
  show wpAny _ _ (spliced ((false, eval (.BinOp a op (.Constant (.str z) j cp) pos) X.env) :: backTo bpos (starEach es X.env))) _ _ s
  have h2 := tM_op hg h
  refine Calls.spliced_cons (wpAny_BinOp (thn (ha.run pins s σ H _ I h2) fun v s1 ⟨x, H1, I1, r1, q1⟩ => ?_))
  obtain ⟨G0, env0, f0, e0, q0⟩ := q1
  have q2 := q0 (.str z) G0 H1 f0 (.refl _ _ _) e0 rfl
  refine Calls.Constant_str ?_
  refine wpAny_mono (PySem.wpAny_toks (ho pins { s1 with toks := s1.toks + 1 } σ H1 x (.str z) v _ _ (I1.tok _) r1 ⟨_, rfl⟩ q2)) (fun u s2 q => ?_) fun _ _ z => z.2
  obtain ⟨hk, y, H2, I2, r2, q3⟩ := q
  exact thn (hr bpos pins s2 σ H2 _ (Nat.le_trans (by show 1 ≤ s1.toks + 1; omega) hk) I2 q3) fun us s3 ⟨xs, H3, I3, r3, q4⟩ => ⟨y :: xs, H3, I3, .cons r2 r3, q4⟩
theorem det_bin {op : Operator} {r : R2} {g : D → D → Option D} (ho : OpR X (binaryOp op) r) (hg : OpD (rc X) r g) (ha : DET X W a Fa) (hb : DE X W b Fb) : DET X W (.BinOp a op b pos) (bin2 g Fa Fb) := by
  intro pins s σ H Q h0 I h
  exact CwR.pet_op ho ha (CwR.PET.of hb) pins s σ H Q h0 I (tM_op hg h)
end
open Builtin Builtin.Str in
theorem gives_repl1 (x y z : Str) (t u v w : Tok) (h0 : (u == 0 || v == 0) = false) (huv : (u == v) = false) (hyz : (y == z) = false) (hl : tooLong (x.length + (occurrences x y 0 x.length 1).length * z.length) = false) :
    Gives («str.replace» ⟨[.str x t, .str y u, .str z v, .int 1 w], []⟩)
      (if ((occurrences x y 0 x.length 1).isEmpty || (y.length == 0 && z.length == 0)) = true then .val (.str x t)
       else .str (glued z (partsBetween x (occurrences x y 0 x.length 1) y.length))) := by
  show Gives (do
    let limit ← countLimit "str.replace" (some (.int 1 w)) (x.length + 1)
    if ((occurrences x y 0 x.length limit).isEmpty || (y.length == 0 && z.length == 0)) = true then (do rule "str.replace.nothing"; ret (.str x t)) else
          (do let same ← isSame (.str y u) (.str z v)
              if same = true then (do rule "str.replace.old-is-new"; ret (.str x t)) else
              if tooLong (x.length + (occurrences x y 0 x.length limit).length * z.length) = true then unsupported "str.replace:memory" else
              retStr (glued z (partsBetween x (occurrences x y 0 x.length limit) y.length)))) _
  rw [countLimit_int "str.replace" 1 w (x.length + 1) (by decide)]
  show Gives (if ((occurrences x y 0 x.length 1).isEmpty || (y.length == 0 && z.length == 0)) = true then _ else _) _
  cases hc : ((occurrences x y 0 x.length 1).isEmpty || (y.length == 0 && z.length == 0))
  · rw [isSame_str_other y z u v h0 huv hyz]
    show Gives (if tooLong (x.length + (occurrences x y 0 x.length 1).length * z.length) = true then _ else retStr _) _
    rw [hl]
    exact .of_eq rfl
  · exact .rule (.of_eq rfl)
section
open Builtin Builtin.Str
variable {X : Cx} {W : WX} {a : Expr} {Fa : M D} {y z : Str} {j k m : Nat} {c0 c1 c2 apos pos : Pos}
def repl1 (y z x : Str) : Str := if ((occurrences x y 0 x.length 1).isEmpty || (y.length == 0 && z.length == 0)) = true then x else glued z (partsBetween x (occurrences x y 0 x.length 1) y.length)
def gRepl1 (y z : Str) : D → Option D
  | .str x => if tooLong (x.length + (occurrences x y 0 x.length 1).length * z.length) = false ∧ (repl1 y z x).length ≤ 16777216 then some (.str (repl1 y z x)) else none
  | _ => none
theorem call_repl1 {prog : Program} {w : World} {A : Around} {E : Value → Shared → Prop} {s : Shared} {x y z : Str} {t u v r : Tok} {Q : Value → Shared → Prop} (hu : u ≠ 0) (hv : v ≠ 0) (huv : u ≠ v) (hyz : (y == z) = false)
    (hl : tooLong (x.length + (occurrences x y 0 x.length 1).length * z.length) = false) (hb : (repl1 y z x).length ≤ 16777216)
    (hq : ∀ t' k, Q (.str (repl1 y z x) t') { s with toks := k }) : wpAny (model prog w) A (call (.builtin "str.replace") [.str x t, .str y u, .str z v, .int 1 r]) Q E s := by
  refine call_gives F.slot_str_replace (typeIs_str _ _ _) F.entry_str_replace (F.args_str_replace_4 _ _ _ _) (gives_repl1 x y z t u v r (by simp [hu, hv]) (by simp [huv]) hyz hl) ?_
  have hq' := hq
  unfold repl1 at hq' hb
  cases hc : ((occurrences x y 0 x.length 1).isEmpty || (y.length == 0 && z.length == 0))
  · rw [hc] at hq' hb
    simp only [Bool.false_eq_true, if_false] at hq' hb ⊢
    exact ⟨by rw [sizeLine_eq]; exact hb, hq' _ _⟩
  · rw [hc] at hq'
    simp only [if_true] at hq' ⊢
    exact hq' t s.toks
theorem det_repl1 (ha : DE X W a Fa) (hyz : (y == z) = false := by decide)
    (hst : starEach [.Constant (.str y) j c0, .Constant (.str z) k c1, .Constant (.int 1) m c2] X.env = [(false, eval (.Constant (.str y) j c0) X.env), (false, eval (.Constant (.str z) k c1) X.env), (false, eval (.Constant (.int 1) m c2) X.env)] := by rfl)
    (hbase : attributeBase a "replace" X.env (eval a X.env) = eval a X.env := by rfl) (hline : (apos.endLine == pos.line) = true := by rfl) :
    DET X W (.Call (.Attribute a "replace" apos) [.Constant (.str y) j c0, .Constant (.str z) k c1, .Constant (.int 1) m c2] [] pos) (un1 (gRepl1 y z) Fa) := by
  intro pins s σ H Q h0 I h
  have h1 : tM (rc X) W (Rep (rc X)) Fa σ H (fun v H1 => ∃ x, v = .str x ∧ (tooLong (x.length + (occurrences x y 0 x.length 1).length * z.length) = false ∧ (repl1 y z x).length ≤ 16777216) ∧ Q (.str (repl1 y z x)) H1) := by
    refine tM_then (P1 := Rep (rc X)) h fun G1 env1 f1 d v H1 e p q => ?_
    obtain ⟨d2, hd2, q2⟩ := q.fin' e
    cases d with
    | str x =>
      have hd2 : (if tooLong (x.length + (occurrences x y 0 x.length 1).length * z.length) = false ∧ (repl1 y z x).length ≤ 16777216 then some (D.str (repl1 y z x)) else none) = some d2 := hd2
      split at hd2
      · rename_i hc
        cases hd2
        exact ⟨x, p, hc, q2 _ rfl⟩
      · cases hd2
    | _ => cases hd2
  refine PySem.wpAny_Call_method_lateS hbase (by rw [hst]; rfl) hline ?_
  rw [hst]
  show wpAny _ _ _ (fun ov s₁ => MethodOnS X.prog X.w X.A X.xe "replace" ov pos [(false, eval (.Constant (.str y) j c0) X.env), (false, eval (.Constant (.str z) k c1) X.env), (false, eval (.Constant (.int 1) m c2) X.env)] (EP X pins σ Q) s₁) _ _
  refine wpAny_mono (PySem.wpAny_toks (ha.run pins s σ H _ I h1)) (fun v s1 q => ?_) fun _ _ z => z.2
  obtain ⟨hk, v', H1, I1, r1, x, e1, ⟨hb1, hb2⟩, q⟩ := q
  subst e1
  obtain ⟨tx, e2⟩ := r1
  subst e2
  refine ⟨"str", _, PySem.F.plainAttrs_str, PySem.F.slot_str_replace, PySem.F.type_str_replace, typeIs_str _ _ _, (fun _ e => nomatch e), Calls.callWith_builtin rfl (Calls.evalArgs_plain (Calls.spliced_cons ?_))⟩
  refine Calls.Constant_str (Calls.spliced_cons (Calls.Constant_str (Calls.spliced_cons (wpAny_Constant_int (Calls.spliced_nil ?_)))))
  exact call_repl1 (by show s1.toks ≠ 0; omega) (by show s1.toks + 1 ≠ 0; omega) (by show s1.toks ≠ s1.toks + 1; omega) hyz hb1 hb2 fun t' k => ⟨.str (repl1 y z x), H1, I1.tok k, ⟨t', rfl⟩, q⟩
end
end DL

namespace DL
open PySem PySem.Spec PyProof.Rows L2 LamX
section
variable {c : HK} {K : PySem.W.Frag} {mg : Str → Option Value} {base : Heap}
theorem Cfx.isO (C : Cfx c K mg base) {cl : List Str} (h1 : ∀ x ∈ cl, He.Fa.glo x ∈ c.fa ∧ He.Fa.cls x ∈ c.fa ∧ Ck.iso x ∈ c.ck) : ∀ x ∈ cl, ∀ D, mg x = some (.ref D) → IsO K D := by
  intro x hx D hD
  obtain ⟨g, k, q⟩ := h1 x hx
  rw [C.glo g] at hD
  cases hD
  obtain ⟨q1, q2⟩ := Bool.and_eq_true_iff.mp (show (_ && _) = true from C.ckx q)
  obtain ⟨q2, q3⟩ := Bool.and_eq_true_iff.mp q2
  obtain ⟨q3, q4⟩ := Bool.and_eq_true_iff.mp q3
  exact ⟨He.cls_ok (C.fact k), of_decide_eq_true q1, of_decide_eq_true q2, of_decide_eq_true q3, of_decide_eq_true q4⟩
theorem Cfx.eqI (C : Cfx c K mg base) {x : Str} (g : He.Fa.glo x ∈ c.fa) (m : He.Fa.meth x "__eq__" ∈ c.fa) (q : Ck.eqi x ∈ c.ck) : ∀ y ∈ [x], ∀ D, mg y = some (.ref D) → EqI K D (He.fAd K (x, some "__eq__")) := by
  intro y hy D hD
  cases List.mem_singleton.mp hy
  rw [C.glo g] at hD
  cases hD
  obtain ⟨q1, q2⟩ := Bool.and_eq_true_iff.mp (show (_ && _) = true from C.ckx q)
  exact ⟨of_decide_eq_true q1, of_decide_eq_true q2, He.meth_ok (C.fact m)⟩
end
end DL

namespace DL
open PySem PyProof.Rows L2
variable {i j : Int} {xs ys : List D} {z y : Str} {Fa Fb : M D} {e : List EV} {Q : D → List EV → Prop} {X : XV → List EV → Prop}
@[simp] theorem wp_okO {α : Type} {a : α} {e : List EV} {Q : α → List EV → Prop} {X : XV → List EV → Prop} : (Out.ok a e).wp Q X = Q a e := rfl
@[simp] theorem wp_exO {α : Type} {x : XV} {e : List EV} {Q : α → List EV → Prop} {X : XV → List EV → Prop} : (Out.ex x e : Out α).wp Q X = X x e := rfl
@[simp] theorem gMulA_i : gMulA (.int i) (.int j) = gMul (.int i) (.int j) := rfl
@[simp] theorem gMulA_l : gMulA (.lst xs) (.int j) = if -9223372036854775808 ≤ j ∧ j < 9223372036854775808 ∧ xs.length * j.toNat ≤ 16777216 then some (.lst (List.replicate j.toNat xs).flatten) else none := rfl
@[simp] theorem gInt_b {b : Bool} : gInt [.bl b] = some (.int (if b = true then 1 else 0)) := rfl
@[simp] theorem atI_two {x : Int} {b : Bool} : atI [D.int 0, D.int x] (if b = true then 1 else 0) = some (.int (if b = true then x else 0)) := by cases b <;> rfl
@[simp] theorem gMax2_i : gMax2 [.int i, .int j] = some (.int (if i < j then j else i)) := rfl
@[simp] theorem gStr_i : gStr [.int i] = if i.natAbs.log2 < 1920 then some (.str (toString i)) else none := rfl
theorem gSplit_s : gSplit z (.str y) = if (y.length == 0) = false ∧ z.length + 2 ≤ 16777216 then some (.lst ((Txt.split z y).map .str)) else none := rfl
def wpS (x : D) (Q : Str → Prop) : Prop := match x with
  | .str z => Q z
  | _ => False
@[simp] theorem wpS_s {Q : Str → Prop} : wpS (.str z) Q = Q z := rfl
@[simp] theorem wp_strM {g : Str → D → Option D} : (strM g Fa Fb e).wp Q X = (Fa e).wp (fun x e0 => wpS x fun z => (Fb e0).wp (fun y e1 => wpO (g z y) fun d => Q d e1) X) X := by
  unfold strM
  rw [wp_bnd]
  congr 1
  funext x e0
  cases x with
  | str z =>
    show Out.wp (bnd _ _ e0) _ _ = _
    rw [wp_bnd]
    simp only [wp_ofO, wpS_s]
  | _ => rfl
theorem strsOf_map : ∀ ys : List Str, strsOf (ys.map .str) = some ys
  | [] => rfl
  | y :: ys => by
    show (strsOf (ys.map .str)).map _ = _
    rw [strsOf_map ys]
    rfl
theorem gJoin_l {ys : List Str} (h : (ys.map (·.length)).sum + ys.length * z.length ≤ 16777216) : gJoin z (.lst (ys.map .str)) = some (.str (Txt.join z ys)) := by
  unfold gJoin
  rw [show itemsOf (.lst (ys.map D.str)) = some (ys.map D.str) from rfl]
  dsimp only
  rw [strsOf_map]
  dsimp only
  rw [if_pos h]
@[simp] theorem gSl_s {l h : Option Int} : gSl (.str z) l h = if z.length ≤ 16777216 then some (.str (cutS z l h)) else none := rfl
@[simp] theorem wp_extS {i : Nat} {P : Pe} : (extS i Fa e).wp P = wpO (getO i e) fun _ => (Fa e).wp (fun d e1 => wpO (getO i e1) fun ds => ∃ es, d = .lst es ∧ ds.length + es.length ≤ 16777216 ∧ P.nx (putO i (ds ++ es) e1)) P.ex := by
  unfold extS
  cases getO i e with
  | none => exact propext ⟨fun z => z.elim, fun ⟨_, z, _⟩ => by cases z⟩
  | some ds0 =>
    rw [wpO_some]
    show SO.wp (bndS _ _ e) P = _
    rw [wp_bndS]
    congr 1
    funext d e1
    cases getO i e1 with
    | none => exact propext ⟨fun z => z.elim, fun ⟨_, z, _⟩ => by cases z⟩
    | some ds =>
      rw [wpO_some]
      cases d with
      | lst es =>
        dsimp only
        by_cases h : ds.length + es.length ≤ 16777216
        · rw [if_pos h]
          exact propext ⟨fun q => ⟨es, rfl, h, q⟩, fun ⟨_, z, _, q⟩ => by cases z; exact q⟩
        · rw [if_neg h]
          exact propext ⟨fun q => q.elim, fun ⟨_, z, h2, q⟩ => by cases z; exact absurd h2 h⟩
      | _ => exact propext ⟨fun q => q.elim, fun ⟨_, z, _⟩ => by cases z⟩
@[simp] theorem wp_bin2M {g : D → D → M D} : (bin2M g Fa Fb e).wp Q X = (Fa e).wp (fun x e1 => (Fb e1).wp (fun y e2 => (g x y e2).wp Q X) X) X := by
  unfold bin2M
  simp only [wp_bnd]
theorem wp_eqM {cl : List Str} {S : List EV → Out EV} {ng : Bool} {c : Str} {fn gn : List Str} {fv gv : List D} {b : Bool} (hc : c ∈ cl) (hS : (S [.v (.ins c fn fv), .v (.ins c gn gv)]).wp (fun r os => r = .v (.bl b) ∧ os = [.un, .un]) fun _ _ => False)
    (q : Q (.bl (ng != b)) e) : (eqM cl S ng (.ins c fn fv) (.ins c gn gv) e).wp Q X := by
  unfold eqM
  dsimp only
  rw [if_pos ⟨hc, rfl⟩]
  cases z : S [.v (.ins c fn fv), .v (.ins c gn gv)] with
  | ok r os =>
    rw [z] at hS
    obtain ⟨rfl, rfl⟩ := hS
    have e2 : callA S [.d (.ins c fn fv), .d (.ins c gn gv)] e = .ok (.v (.bl b)) e := by
      unfold callA
      simp [takeA, z, putA]
    rw [e2]
    exact q
  | ex x os => rw [z] at hS; exact hS.elim
  | no => rw [z] at hS; exact hS.elim
end DL

namespace DL
open PySem PySem.Spec PyProof.Rows L2
/-! ### a raise out of a comprehension's block -/
theorem funFrames_less {h B G : Heap} (k : ∀ b, B.get? b = none → G.get? b = none) : ∀ {l : List Env}, h.FunFrames B l → h.FunFrames G l
  | [], _ => trivial
  | _ :: _, ⟨hk, ⟨L', o, hf, hb, ho, hd⟩, hr⟩ => ⟨hk, ⟨L', o, hf, k _ hb, ho, hd⟩, funFrames_less k hr⟩
theorem ns_move {h h' : Heap} {C : Addr} {m : Str → Option Value} (hn : h.Ns C m) (k : ∀ o, h.get? C = some o → h'.get? C = some o) : h'.Ns C m := by
  obtain ⟨oL, es, ep, hoL, hdL, r⟩ := hn
  exact ⟨oL, es, ep, k _ hoL, hdL, r⟩
/-- the block's names are let go: the ground without them -/
theorem heldZ_let {B h h' : Heap} {l : List Env} {a L C : Addr} {Z : Obj → Prop} {m m' : Str → Option Value} (hh : PySem.HandSPX.HeldZ B l a Z L h) (hn : h.Ns C m) (hn' : h'.Ns C m') (sb : Heap.SameBut C h h') :
    ∃ B' : Heap, (∀ b, b ≠ C → B'.get? b = B.get? b) ∧ B'.get? C = none ∧ PySem.HandSPX.HeldZ B' l a Z L h' := by
  obtain ⟨G, g1, g2⟩ := restrict B fun b => decide (b ≠ C)
  have gn : ∀ b, b ≠ C → G.get? b = B.get? b := fun b hb => g1 b (by simpa using hb)
  have gC : G.get? C = none := g2 C (by simp)
  have less : ∀ b, B.get? b = none → G.get? b = none := fun b hb => by
    by_cases z : b = C
    · rw [z]; exact gC
    · rw [gn b z]; exact hb
  obtain ⟨oL, es, ep, hoL, hdL, _⟩ := hn
  have notC : ∀ {b : Addr} {o : Obj} {vs : Array Value}, h.get? b = some o → o.data = .fields vs → b ≠ C := fun e d z => by
    rw [z, hoL] at e
    cases e
    rw [hdL] at d
    cases d
  obtain ⟨f1, f2, f3, oe, vs, T, oT, ts, he, hz, hd, h1, hnT, hTe, hT, hdT, h3⟩ := hh
  refine ⟨G, gn, gC, fun b o e => ?_, less _ f2, funFrames_less less (Heap.FunFrames.sameBut sb hn' f3), oe, vs, T, oT, ts, (sb.2 a (notC he hd)).trans he, hz, hd, h1, less _ hnT, hTe, (sb.2 T (notC hT hdT)).trans hT, hdT, h3⟩
  have hb : b ≠ C := fun z => by rw [z, gC] at e; cases e
  rw [gn b hb] at e
  exact (sb.2 b hb).trans (f1 b o e)
/-- held by the def's own frame: in its air -/
theorem XE.held {X : Cx} {W : WX} {pins : List (Addr × Obj)} {σ : L2.St} {H H' : Hp} {s s' : Shared} {B : Heap} {a : Addr} {cls : Value} {d : Option Addr} (I : Inv X pins σ H s) (hh : PySem.HandSPX.HeldZ B X.stack a (Zc cls d) X.env.locals s'.heap)
    (hok : HOk X.prog X.w H' B) (ub : UB (frs X.stack) H H' s.heap B s'.heap) (na : H' a = none) (os : s'.os = s.os) (ag : AllBare s'.gens) (w : W cls d σ H') : XE X W (.ref a) s' := by
  obtain ⟨G, g1, g2⟩ := restrict s'.heap fun b => (B.get? b).isSome || decide (b ∈ frs X.stack)
  have gB : ∀ b o, B.get? b = some o → G.get? b = some o := fun b o e => by
    rw [g1 b (by simp [e])]
    exact hh.1 b o e
  have og : ∀ b o, G.get? b = some o → s'.heap.get? b = some o ∧ ((B.get? b).isSome = true ∨ b ∈ frs X.stack) := fun b o e => by
    cases q : ((B.get? b).isSome || decide (b ∈ frs X.stack)) with
    | false => rw [g2 b q] at e; cases e
    | true =>
      rw [g1 b q] at e
      exact ⟨e, by simpa [Bool.or_eq_true] using q⟩
  have slot : ∀ b o, s.heap.get? b = some o → b ∈ frs X.stack → ∃ sl, G.get? b = some { o with slots := sl } := fun b o e hb => by
    obtain ⟨sl, q⟩ := ub.slot b o e hb
    exact ⟨sl, by rw [g1 b (by simp [hb])]; exact q⟩
  refine ⟨a, B, { s with heap := G, gens := s'.gens, drawn := s'.drawn, toks := s'.toks }, pins, σ, H', cls, d, rfl, ?_, fun b o e hb => ?_, Heap.UpToSlots.of_keeps fun b o e => (og b o e).1, .inr (.inr hh), na, os, ag, w⟩
  · refine I.call (ch := []) ⟨fun b o e n hb _ => gB b o (ub.keep b o e n hb), fun b o e n hb _ => slot b o e hb, fun b o e n _ => ub.free b o e n, fun b o e _ => ?_, ub.tups, ub.frzs, ub.tbls⟩ (hok.kept gB) ag (fun _ z => nomatch z)
    by_cases hb : b ∈ frs X.stack
    · obtain ⟨sl, q⟩ := slot b o e hb
      exact ⟨_, q⟩
    · obtain ⟨o', q⟩ := ub.there b o e hb
      exact ⟨o', gB b o' q⟩
  · obtain ⟨e', h⟩ := og b o e
    rcases h with h | h
    · obtain ⟨o', q⟩ := Option.isSome_iff_exists.mp h
      rw [hh.1 b o' q] at e'
      cases e'
      exact q
    · exact absurd h hb
end DL

namespace DL
open PySem PySem.Spec PyProof.Rows L2
theorem heldZ_dom {B h h' : Heap} {l : List Env} {a L C : Addr} {Z : Obj → Prop} {m m' : Str → Option Value} (hh : PySem.HandSPX.HeldZ B l a Z L h) (hn : h.Ns C m) (hn' : h'.Ns C m') (sb : Heap.SameBut C h h') :
    ∃ B' : Heap, (∀ b, (B'.get? b).isSome = (B.get? b).isSome) ∧ (∀ b o, b ≠ C → B.get? b = some o → B'.get? b = some o) ∧ PySem.HandSPX.HeldZ B' l a Z L h' := by
  obtain ⟨G, g1, g2⟩ := restrict h' fun b => (B.get? b).isSome
  obtain ⟨oC, es', ep', hoC, hdC, _⟩ := hn'
  obtain ⟨oL, es, ep, hoL, hdL, _⟩ := hn
  obtain ⟨f1, f2, f3, oe, vs, T, oT, ts, he, hz, hd, h1, hnT, hTe, hT, hdT, h3⟩ := hh
  have there : ∀ b o, b ≠ C → B.get? b = some o → G.get? b = some o := fun b o hb e => by
    rw [g1 b (by rw [e]; rfl), sb.2 b hb]
    exact f1 b o e
  have dom : ∀ b, (G.get? b).isSome = (B.get? b).isSome := fun b => by
    cases q : B.get? b with
    | none => rw [g2 b (by rw [q]; rfl)]
    | some o =>
      by_cases hb : b = C
      · rw [g1 b (by rw [q]; rfl), hb, hoC]
        rfl
      · rw [there b o hb q]
  have less : ∀ b, B.get? b = none → G.get? b = none := fun b hb => g2 b (by rw [hb]; rfl)
  have notC : ∀ {b : Addr} {o : Obj} {vs : Array Value}, h.get? b = some o → o.data = .fields vs → b ≠ C := fun e d z => by
    rw [z, hoL] at e
    cases e
    rw [hdL] at d
    cases d
  refine ⟨G, dom, there, fun b o e => ?_, less _ f2, funFrames_less less (Heap.FunFrames.sameBut sb ⟨oC, es', ep', hoC, hdC, by assumption⟩ f3), oe, vs, T, oT, ts, (sb.2 a (notC he hd)).trans he, hz, hd, h1, less _ hnT, hTe, (sb.2 T (notC hT hdT)).trans hT, hdT, h3⟩
  have hs : (B.get? b).isSome = true := by rw [← dom b, e]; rfl
  rw [g1 b hs] at e
  exact e
/-- held by the def's own frame, the block's names let go -/
theorem XE.let_ {X : Cx} {W : WX} {pins : List (Addr × Obj)} {σ : L2.St} {H H' : Hp} {s s1 : Shared} {B h' : Heap} {a C : Addr} {cls : Value} {d : Option Addr} (I : Inv X pins σ H s) (hh : PySem.HandSPX.HeldZ B X.stack a (Zc cls d) X.env.locals s1.heap)
    (hok : HOk X.prog X.w H' B) (ub : UB (frs X.stack) H H' s.heap B s1.heap) (na : H' a = none) (os : s1.os = s.os) (ag : AllBare s1.gens) (w : W cls d σ H') (fp : FpOk X pins H' C) (fC : C ∉ frs X.stack)
    (sb : Heap.SameBut C s1.heap h') {B' h3 : Heap} (dom : ∀ b, (B'.get? b).isSome = (B.get? b).isSome) (hh' : PySem.HandSPX.HeldZ B' X.stack a (Zc cls d) X.env.locals h') (hh3 : PySem.HandSPX.HeldZ B' X.stack a (Zc cls d) X.env.locals h3) (up3 : h'.UpToSlots h3) : XE X W (.ref a) { s1 with heap := h3 } := by
  obtain ⟨G, g1, g2⟩ := restrict s1.heap fun b => (B.get? b).isSome || decide (b ∈ frs X.stack)
  obtain ⟨G', k1, k2⟩ := restrict h' fun b => (B.get? b).isSome || decide (b ∈ frs X.stack)
  have gB : ∀ b o, B.get? b = some o → G.get? b = some o := fun b o e => by
    rw [g1 b (by simp [e])]
    exact hh.1 b o e
  have slot : ∀ b o, s.heap.get? b = some o → b ∈ frs X.stack → ∃ sl, G.get? b = some { o with slots := sl } := fun b o e hb => by
    obtain ⟨sl, q⟩ := ub.slot b o e hb
    exact ⟨sl, by rw [g1 b (by simp [hb])]; exact q⟩
  have I1 : Inv X pins σ H' { s with heap := G, gens := s1.gens, drawn := s1.drawn, toks := s1.toks } := by
    refine I.call (ch := []) ⟨fun b o e n hb _ => gB b o (ub.keep b o e n hb), fun b o e n hb _ => slot b o e hb, fun b o e n _ => ub.free b o e n, fun b o e _ => ?_, ub.tups, ub.frzs, ub.tbls⟩ (hok.kept gB) ag (fun _ z => nomatch z)
    by_cases hb : b ∈ frs X.stack
    · obtain ⟨sl, q⟩ := slot b o e hb
      exact ⟨_, q⟩
    · obtain ⟨o', q⟩ := ub.there b o e hb
      exact ⟨o', gB b o' q⟩
  have og' : ∀ b o, G'.get? b = some o → h'.get? b = some o ∧ ((B.get? b).isSome = true ∨ b ∈ frs X.stack) := fun b o e => by
    cases q : ((B.get? b).isSome || decide (b ∈ frs X.stack)) with
    | false => rw [k2 b q] at e; cases e
    | true =>
      rw [k1 b q] at e
      exact ⟨e, by simpa [Bool.or_eq_true] using q⟩
  obtain ⟨f0, f1, f2, f3, f4, f5⟩ := fp
  have I2 := I1.turned (h' := G') (t' := s1.toks) (it := C) (fun b o hb e => by
    cases q : ((B.get? b).isSome || decide (b ∈ frs X.stack)) with
    | false =>
      have z : G.get? b = none := g2 b q
      rw [show ({ s with heap := G, gens := s1.gens, drawn := s1.drawn, toks := s1.toks } : Shared).heap.get? b = G.get? b from rfl, z] at e
      cases e
    | true =>
      have e : G.get? b = some o := e
      rw [g1 b q] at e
      rw [k1 b q, sb.2 b hb]
      exact e) f0 f1 f3 f4 f5
  refine ⟨a, B', { s with heap := G', gens := s1.gens, drawn := s1.drawn, toks := s1.toks }, pins, σ, H', cls, d, rfl, I2, fun b o e hb => ?_, (Heap.UpToSlots.of_keeps fun b o e => (og' b o e).1).trans up3, .inr (.inr hh3), na, os, ag, w⟩
  obtain ⟨e', h⟩ := og' b o e
  rcases h with h | h
  · rw [← dom b] at h
    obtain ⟨o', q⟩ := Option.isSome_iff_exists.mp h
    have z := hh'.1 b o' q
    rw [e'] at z
    cases z
    exact q
  · exact absurd h hb
/-- a call in the block raises: noted, the block let go, in the def's own air -/
theorem block_raise {X : Cx} {W : WX} (tk : Takes X W) (hs : X.stack = X.env :: X.outer) (hf : X.env.frame = some X.env.locals) {pins : List (Addr × Obj)} {σ : L2.St} {H : Hp} {s s' : Shared} (I : Inv X pins σ H s) {ce : Env} (hcf : ce.frame = X.env.frame)
    (fp : ∀ H' : Hp, H' ce.locals = none → FpOk X pins H' ce.locals) (fC : ce.locals ∉ frs X.stack) {m : Str → Option Value} (hn : s.heap.Ns ce.locals m) (nC : H ce.locals = none) {E : XK} (hW : ∀ cls d H', E cls d H' → W cls d σ H') {u : Value}
    (c : L2.CX X.prog X.w X.stack H s E u s') : notedBy (model X.prog X.w) X.A ce (CompFails (model X.prog X.w) X.A X.xe ce) u s' := by
  obtain ⟨a, B, H', cls, d, rfl, fl, hok, ub, na, os, ag, hE⟩ := c
  have hfr : X.A.frames = some (X.env :: X.outer) := by rw [I.ok.frames, hs]
  show wpAny _ _ (noteFrame (.ref a) ce) _ _ s'
  rw [noteFrame_env _ hcf]
  refine PySem.HandSPX.looks_onZ Zc.steady hfr hf (by rw [hs] at fl; exact fl) fun h1 hh up => ?_
  have hh : PySem.HandSPX.HeldZ B X.stack a (Zc cls d) X.env.locals h1 := by rw [hs]; exact hh
  have inB : ∀ o, s.heap.get? ce.locals = some o → B.get? ce.locals = some o := fun o e => ub.keep _ o e nC fC
  have hn1 : h1.Ns ce.locals m := ns_move hn fun o e => hh.1 _ _ (inB o e)
  have nC' : H' ce.locals = none := by
    obtain ⟨o, _, _, e, _⟩ := hn
    exact ub.free _ o e nC
  refine ⟨m, hn1, fun h' m' hn' sb => ?_⟩
  obtain ⟨B', dom, there, hh'⟩ := heldZ_dom hh hn1 hn' sb
  obtain ⟨oe, vs, T, oT, ts, he, hz, hd, h1', _⟩ := hh'.2.2.2
  unfold PySem.passOn
  refine wpAny_bind (wpAny_field he hd h1' ?_)
  rw [if_neg (show ¬ ((Value.ref T == Value.none) = true) from by simp), hcf, hf]
  refine wpAny_bind (PySem.HandSPX.setFlight_onZ hh' fun h3 hh3 up3 => ?_)
  refine wpAny_throw (tk _ _ ?_)
  have ub1 : UB (frs X.stack) H H' s.heap B h1 := ⟨ub.keep, fun b o e hb => ?_, ub.free, ub.there, ub.tups, ub.frzs, ub.tbls⟩
  · exact XE.let_ (s1 := { s' with heap := h1 }) (C := ce.locals) I hh hok ub1 na os ag (hW _ _ _ hE) (fp _ nC') fC sb dom hh' hh3 up3
  · obtain ⟨sl, q⟩ := ub.slot b o e hb
    obtain ⟨_, o', e', nf⟩ := fl.2.2.1.mem (by exact hb)
    rw [q] at e'
    cases e'
    obtain ⟨sl2, e2⟩ := up b _ q nf
    exact ⟨sl2, e2⟩
end DL

namespace DL
open PySem PySem.Spec PyProof.Rows L2
/-! ### a list comprehension whose element may raise out of a call -/
/-- the block, its raises told -/
abbrev blkR (X : Cx) (s : Shared) (H : Hp) (scope : Scope) (C : Addr) (cl : List (Str × Addr)) (fp : List Addr) (pn : List (Addr × Obj)) (xe : Value → Shared → Prop) : Cx := (X.blk s H scope (compEnvC scope cl C X.env) fp).tr pn xe
theorem lcX_core {X : Cx} {W : WX} {pins : List (Addr × Obj)} {s : Shared} {σ : L2.St} {H : Hp} {Q : VK} {elt tg iter : Expr} {ifs : List Expr} {scope : Scope} {own : List (Str × Nat)} {pos pos' : Pos} {wi : TI} {g : TG} {tt : TT} {te : WX → TE} {use : Option (Value → Sem Unit)} {Qf : Value → Shared → Prop}
    (hc : X.calm = true) (hN : X.N.Nodup) (hst : X.stack = X.env :: X.outer) (hf : X.env.frame = some X.env.locals) (tk : Takes X W) (I : Inv X pins σ H s) (hi : PI X tg iter wi) (ok : BlkOk X.N X.env.scope scope own)
    (hg : ∀ (s : Shared) (H : Hp) (C : Addr) (cl : List (Str × Addr)) (fp : List Addr), PG (X.blk s H scope (compEnvC scope cl C X.env) fp) tg g) (ht : ∀ (s : Shared) (H : Hp) (C : Addr) (cl : List (Str × Addr)) (fp : List Addr), PTs (X.blk s H scope (compEnvC scope cl C X.env) fp) ifs tt)
    (he : ∀ (s : Shared) (H : Hp) (C : Addr) (cl : List (Str × Addr)) (fp : List Addr) (pn : List (Addr × Obj)) (xe : Value → Shared → Prop) (Wb : WX), (∀ σ, PassesAt (L2.CX X.prog X.w) (blkR X s H scope C cl fp pn xe) σ fun c d H => Wb c d σ H) → PE (blkR X s H scope C cl fp pn xe) elt (te Wb))
    (hs : ∀ x, foldedSetIterable iter X.env x = pure x) (h : tLc wi g tt (te fun c d _ H2 => W c d σ H2) (own.map (·.2)) σ H Q)
    (hRR : ∀ (D C : Addr) (ce : Env) (s' : Shared) (m : Str → Option Value) (H' : Hp), ce.locals = C → Inv X pins σ H' s' → Q (.ref D) H' → s'.heap.Ns C m → FpOk X pins H' C → compEnds (model X.prog X.w) X.A X.xe use Qf (.ref D) ce (.ok .next) s') :
    wpAny (model X.prog X.w) X.A (comprehension (.ListComp elt [⟨tg, iter, ifs, 0⟩] scope pos) scope X.env pos' (newList []) false (eval iter X.env) use) Qf X.xe s := by
  have hfree : ∀ y ∈ scope.names, y.2 = .free → ∃ c, X.env.cells.lookup y.1 = some c := fun y hy e => (ok.free y hy e).elim (fun k => I.ok.has _ (.inl k)) fun k => I.ok.has _ (.inr k)
  refine comprehension_at (use := use) rfl hs (closure_ok hfree) ok.kind (fun y hy e => by rw [ok.uniq y hy, e]) (thn (hi.run pins s σ H _ I h) fun xv s1 hx => thn hx fun itv s2 h2 => ?_)
  obtain ⟨it, fp, tn, J, H2, e, I2, T, st2, f2, q⟩ := h2
  subst e
  refine wpAny_newObj_type (newEnv_comp ?_) (by show 0 ≤ sizeLine; decide)
  generalize hD : s2.heap.objs.size = D
  have hDn : H2 D = none := I2.hok.fresh (Nat.le_of_eq hD)
  obtain ⟨Wt, ⟨m0, w0⟩, turn⟩ := q D hDn
  generalize hs3 : ({ s2 with heap := s2.heap.push { cls := .type "list", data := .seq ([] : List Value).toArray } } : Shared) = s3
  have I3 : Inv X pins σ (upd H2 D (.lst [])) s3 := by
    rw [← hs3]
    refine I2.laid (t' := s2.toks) (fun b o e => Heap.get?_push_of_some _ e) (Nat.le_of_eq hD) ⟨Nat.zero_le _, [], 0, .nil, ?_⟩
    rw [← hD]
    exact Heap.get?_push_size _ rfl
  have h3 : s3.heap = s2.heap.push { cls := .type "list", data := .seq ([] : List Value).toArray } := by rw [← hs3]
  have sz : ∀ b ∈ fp, b < s2.heap.objs.size := fun b hb => by
    obtain ⟨o, e, _⟩ := T.obj _ _ st2 b hb
    exact Heap.lt_size e
  have f3 : ∀ b ∈ fp, FpOk X pins (upd H2 D (.lst [])) b ∧ b < s3.heap.objs.size := fun b hb => by
    have hlt := sz b hb
    refine ⟨⟨?_, (f2 b hb).2⟩, by rw [h3, Heap.size_push]; exact Nat.lt_succ_of_lt hlt⟩
    rw [upd_ne (by rw [← hD]; exact Nat.ne_of_lt hlt)]
    exact (f2 b hb).1
  have st3 : tn 0 s3.heap := T.keep _ _ _ st2 fun b _ o e => by rw [h3]; exact Heap.get?_push_of_some _ e
  have I4 := block_start I3 ok hN f3
  have pg := hg s3 (upd H2 D (.lst [])) s3.heap.objs.size (cellsFrom (s3.heap.objs.size + 1) scope.names (cloFrom X.env.cells scope.names [])) fp
  have pt := ht s3 (upd H2 D (.lst [])) s3.heap.objs.size (cellsFrom (s3.heap.objs.size + 1) scope.names (cloFrom X.env.cells scope.names [])) fp
  have pe := he s3 (upd H2 D (.lst [])) s3.heap.objs.size (cellsFrom (s3.heap.objs.size + 1) scope.names (cloFrom X.env.cells scope.names [])) fp
  show codeAny _ _ (.compStart (.ListComp elt [⟨tg, iter, ifs, 0⟩] scope pos) 0 (.ref it) (.ref D) (compEnvC scope (cellsFrom (s3.heap.objs.size + 1) scope.names (cloFrom X.env.cells scope.names [])) s3.heap.objs.size X.env)) (compEnds (model X.prog X.w) X.A X.xe use Qf (.ref D) (compEnvC scope (cellsFrom (s3.heap.objs.size + 1) scope.names (cloFrom X.env.cells scope.names [])) s3.heap.objs.size X.env)) { s3 with heap := pushCells _ _ }
  have nfp : ∀ b ∈ fp, (upd H2 D (.lst [])) b = none := fun b hb => (f3 b hb).1.1
  dsimp only [blkR] at pe
  have cF0 : (compEnvC scope (cellsFrom (s3.heap.objs.size + 1) scope.names (cloFrom X.env.cells scope.names [])) s3.heap.objs.size X.env).frame = X.env.frame := rfl
  generalize hce : compEnvC scope (cellsFrom (s3.heap.objs.size + 1) scope.names (cloFrom X.env.cells scope.names [])) s3.heap.objs.size X.env = ce at I4 pg pt pe cF0 ⊢
  have cL : ce.locals = s3.heap.objs.size := by subst hce; rfl
  generalize hH3 : upd H2 D (.lst []) = H3 at I3 I4 pg pt pe w0 nfp f3
  generalize hs4 : ({ s3 with heap := pushCells (s3.heap.push { cls := .type "dict", data := .dict #[] }) scope.names } : Shared) = s4 at I4 ⊢
  have st4 : tn 0 s4.heap := T.keep _ _ _ st3 fun b _ o e => by rw [← hs4]; exact pushCells_keeps _ _ _ _ (Heap.get?_push_of_some _ e)
  have stat : ∀ {σ' : L2.St} {H' : Hp} {s' : Shared}, Inv (X.blk s3 H3 scope ce fp) [] σ' H' s' → (∀ b ∈ fp, H' b = none) → ∀ b ∈ fp, FpOk (X.blk s3 H3 scope ce fp) [] H' b := fun {σ' H' s'} I' hn b hb =>
    ⟨hn b hb, (I'.ok.exf b hb).1, I'.ok.exfs b hb, .inl hb, fun x c e => (I'.ok.exf b hb).2 x c e, fun p hp => absurd (show p ∈ ([] : List (Addr × Obj)) ++ [] from hp) (by simp)⟩
  -- back in the def's context, from anywhere in the block
  have back : ∀ {pn : List (Addr × Obj)} {xe : Value → Shared → Prop} {pins' : List (Addr × Obj)} {σ' : L2.St} {H' : Hp} {s' : Shared}, Inv ((X.blk s3 H3 scope ce fp).tr pn xe) pins' σ' H' s' → Inv X pins σ H' s' := fun {_ _ _ _ _ _} I' =>
    I3.call' (ch := fp) I'.os I'.base I'.hok I'.bare fun b hb => ⟨(f3 b hb).1.2.2.2.1, (f3 b hb).1.2.1, (f3 b hb).1.2.2.2.2.1, (f3 b hb).1.2.2.2.2.2⟩
  have fpC : ∀ H' : Hp, H' ce.locals = none → FpOk X pins H' ce.locals := fun H' n => by
    rw [cL] at n ⊢
    exact I3.fpOk (Nat.le_refl _) n
  have fC : ce.locals ∉ frs X.stack := fun hm => by
    obtain ⟨_, f1, f2, _⟩ := fpC (fun _ => none) rfl
    rcases List.mem_cons.mp (I3.stkSub _ hm) with z | z
    · exact f1 z
    · exact f2 z
  have raises : ∀ (pn : List (Addr × Obj)) (σ2 : L2.St), PassesAt (L2.CX X.prog X.w) ((X.blk s3 H3 scope ce fp).tr pn fun u s' => notedBy (model X.prog X.w) X.A ce (CompFails (model X.prog X.w) X.A X.xe ce) u s') σ2 fun c d H => W c d σ H := fun pn σ2 pins' H' s' u s'' I' c => by
    obtain ⟨m, hn, _⟩ := I'.loc
    exact block_raise tk hst hf (back I') cF0 fpC fC hn I'.free (fun _ _ _ w => w) c
  have loop : codeAny (model X.prog X.w) X.A (.compLoop (.ListComp elt [⟨tg, iter, ifs, 0⟩] scope pos) 0 (.ref it) (.ref D) ce) (compEnds (model X.prog X.w) X.A X.xe use Qf (.ref D) ce) s4 := by
    refine compLoop_any (fun n s' => ∃ i H', Inv (X.blk s3 H3 scope ce fp) [] (wipe σ (own.map (·.2))) H' s' ∧ tn i s'.heap ∧ (∀ b ∈ fp, H' b = none) ∧ Wt i n H') ?_ m0 ⟨0, H3, I4, st4, nfp, w0⟩
    rintro n s5 ⟨i, H5, I5, st5, n5, w5⟩
    rcases turn i n H5 w5 with ⟨stop, qq⟩ | ⟨go, Nx, hNx, step⟩
    · refine thnF (T.done (X.blk s3 H3 scope ce fp) rfl rfl rfl hc i [] s5 _ H5 (fun _ _ => False) I5 (stat I5 n5) st5 stop) fun r s6 ⟨hr, I6⟩ => ?_
      subst hr
      have nC : H5 ce.locals = none := I6.free
      obtain ⟨m, hn, _⟩ := I6.loc
      exact hRR D ce.locals ce s6 m H5 rfl (back (pn := []) (xe := fun _ _ => False) I6) qq hn (fpC H5 nC)
    · refine thnF (T.item (X.blk s3 H3 scope ce fp) rfl rfl rfl hc i [] s5 _ H5 (fun _ _ => False) I5 (stat I5 n5) st5 go) fun r s6 ⟨u, hr, h6⟩ => ?_
      subst hr
      refine thnF h6 fun _ s7 ⟨x, H7, I7, r7, y7, st7, n7⟩ => ?_
      have I7' := I7.pinned (stat I7 n7) (T.obj _ _ st7)
      refine thnF (pg.run _ s7 _ H7 x u _ I7' r7 (step x H7 y7)) fun _ s8 ⟨σ8, H8, I8, hw8, q8⟩ => ?_
      refine thnF (pt.run _ s8 σ8 H8 _ I8 q8) fun b s9 ⟨H9, I9, q9⟩ => ?_
      have fin : ∀ {s' : Shared} {H' : Hp}, Inv (X.blk s3 H3 scope ce fp) ([] ++ pinsAt fp s7.heap) σ8 H' s' → Nx H' → ∃ m, m < n ∧ ∃ i H', Inv (X.blk s3 H3 scope ce fp) [] (wipe σ (own.map (·.2))) H' s' ∧ tn i s'.heap ∧ (∀ b ∈ fp, H' b = none) ∧ Wt i m H' := fun {s' H'} I' nx => by
        obtain ⟨m', hm, w'⟩ := hNx H' nx
        have pin' : ∀ b ∈ fp, ∀ o, s7.heap.get? b = some o → s'.heap.get? b = some o ∧ H' b = none := fun b hb o e =>
          let z := I'.pin (b, o) (List.mem_append_right _ (List.mem_append_right _ (mem_pinsAt hb e)))
          ⟨z.1, z.2.1⟩
        have hl : (wipe σ (own.map (·.2))).length = σ8.length := by rw [← hw8, wipe_length]
        refine ⟨m', hm, i + 1, H', (I'.unpinned (pins := [])).weak hl (fun j v e => ?_), T.keep _ _ _ st7 fun b hb o e => (pin' b hb o e).1, fun b hb => ?_, w'⟩
        · rw [← hw8] at e
          exact (wipe_some e).1
        · obtain ⟨o, e, _⟩ := T.obj _ _ st7 b hb
          exact (pin' b hb o e).2
      cases b with
      | false =>
        simp only [Bool.false_eq_true, if_false] at q9 ⊢
        exact fin I9 q9
      | true =>
        simp only [if_true] at q9 ⊢
        refine wpAny_mono ((pe _ _ _ (raises _)).run [] s9 σ8 H9 _ (I9.toTry _) q9) (fun z s10 hz => ?_) fun u s' hu => hu
        obtain ⟨yv, H10, I10, r10, acc, hD10, hz10, nx⟩ := hz
        have I10' := I10.ofTry I9.ok
        exact app_ok (X := X.blk s3 H3 scope ce fp) I10' hD10 hz10 r10 fun s11 I11 => fin I11 nx
  exact codeAny_compStart_list loop (T.self X.A 0 _ _ _ st4 loop)
end DL

namespace DL
open PySem PySem.Spec PyProof.Rows L2
/-- name = [elt for ..] on one line, the element may raise out of a call -/
def tLcX (wi : TI) (g : TG) (tt : TT) (te : WX → TE) (vs : List Nat) (W : WX) : TE := fun σ H Q => tLc wi g tt (te fun c d _ H2 => W c d σ H2) vs σ H Q
theorem ps_setLcX {X : Cx} {W : WX} {i : Nat} {y : Str} {py : Pos} {elt tg iter : Expr} {ifs : List Expr} {scope : Scope} {own : List (Str × Nat)} {pos spos : Pos} {wi : TI} {g : TG} {tt : TT} {te : WX → TE} (hc : X.calm = true) (hN : X.N.Nodup) (hst : X.stack = X.env :: X.outer) (hf : X.env.frame = some X.env.locals) (tk : Takes X W)
    (hy : X.N[i]? = some y) (hyl : X.env.scope.names.lookup y = some .local) (hsw : swapsWith (.ListComp elt [⟨tg, iter, ifs, 0⟩] scope pos) (some (.Name y py)) spos.line X.env = pure true) (hi : PI X tg iter wi) (ok : BlkOk X.N X.env.scope scope own)
    (hg : ∀ (s : Shared) (H : Hp) (C : Addr) (cl : List (Str × Addr)) (fp : List Addr), PG (X.blk s H scope (compEnvC scope cl C X.env) fp) tg g) (ht : ∀ (s : Shared) (H : Hp) (C : Addr) (cl : List (Str × Addr)) (fp : List Addr), PTs (X.blk s H scope (compEnvC scope cl C X.env) fp) ifs tt)
    (he : ∀ (s : Shared) (H : Hp) (C : Addr) (cl : List (Str × Addr)) (fp : List Addr) (pn : List (Addr × Obj)) (xe : Value → Shared → Prop) (Wb : WX), (∀ σ, PassesAt (L2.CX X.prog X.w) (blkR X s H scope C cl fp pn xe) σ fun c d H => Wb c d σ H) → PE (blkR X s H scope C cl fp pn xe) elt (te Wb))
    (hs : ∀ x, foldedSetIterable iter X.env x = pure x) : PS X (.Assign [.Name y py] (.ListComp elt [⟨tg, iter, ifs, 0⟩] scope pos) spos) (tAsg (tLcX wi g tt te (own.map (·.2)) W) (gName i)) := by
  refine ⟨fun pins s σ H D I h => ?_⟩
  rw [exec_Assign_Name_used _ _ _ _ hsw]
  refine wpAny_bind (wpAny_standAt (wpAny_bind ?_))
  show wpAny _ X.A (do let _ ← comprehension (.ListComp elt [⟨tg, iter, ifs, 0⟩] scope pos) scope X.env (firstIterPos [⟨tg, iter, ifs, 0⟩] pos) (newList []) false (eval iter X.env) (some (assign (.Name y py) X.env))) _ _ s
  have h : tLc wi g tt (te fun c d _ H2 => W c d σ H2) (own.map (·.2)) σ H (fun x H1 => gName i x σ H1 D.nx) := h
  refine wpAny_bind (thn (lcX_core (Qf := fun _ s' => SP X pins D .next s') hc hN hst hf tk I hi ok hg ht he hs h fun L C ce s' m H' hC I' q hn f => ?_) fun _ s' hq => wpAny_pure (wpAny_pure hq))
  subst hC
  show wpAny _ _ (assign (.Name y py) X.env (.ref L)) _ _ _
  refine wpAny_assign_Name (store_ok2 (v := V.ref L) I' hN hy (.inl hyl) rfl (fun s2 I2 ⟨a, sb, ha⟩ => ?_) (.inr hyl))
  obtain ⟨f0, f1, f2, f3, f4, f5⟩ := f
  have haC : ce.locals ≠ a := by
    rcases ha with z | z
    · rw [z]; exact f1
    · exact fun e => f4 y a z e.symm
  exact ⟨m, hn.sameBut sb haC, fun h3 sb3 => ⟨_, H', I2.turned (t' := s2.toks) (fun b o hb e => (sb3.2 b hb).trans e) f0 f1 f3 f4 f5, q⟩⟩
end DL

namespace DL
open PySem PySem.Spec PyProof.Rows L2
variable [LT]
/-! ### a comprehension whose element may raise: its function -/
def lcMx (vs : List Nat) (t : TgF) (T : M Bool) (Fe : M D) : List D → List D → M (List D)
  | [], acc, e => .ok acc e
  | d :: r, acc, e => match t d e with
    | none => .no
    | some e1 => (match T e1 with
      | .ok false e2 => lcMx vs t T Fe r acc (wipeE e2 vs)
      | .ok true e2 => (match Fe e2 with
        | .ok x e3 => if acc.length < 16777216 then lcMx vs t T Fe r (acc ++ [x]) (wipeE e3 vs) else .no
        | .ex x e3 => .ex x (wipeE e3 vs)
        | .no => .no)
      | _ => .no)
def AtLX (R : RC) (W : WX) (m : Out (List D)) (G H : Hp) (f : List Addr) (σ : L2.St) (Q : VK) : Prop := match m with
  | .ok ds e => ∀ a vs G' H' f', Stp G H f G' H' (a :: f') → EnvOk R G' H' e σ f' → H' a = some (.lst vs) → G' a = none → a ∉ f' → Reps R G' ds vs → Q (.ref a) H'
  | .ex x e => ∀ c d G' H' f', Stp G H f G' H' f' → EnvOk R G' H' e σ f' → ExR R G' x c d → W c d σ H'
  | .no => False
section
variable {R : RC} {W : WX}
theorem lc_readX {vs : List Nat} {Pr : Nat → Bool} {t : TgF} {T : M Bool} {Fe : M D} {ds : List D} {J : It} {G1 H1 : Hp} {e0 : List EV} {f1 : List Addr} {σ : L2.St} {Q : VK} (e1 : EnvOk R G1 H1 e0 σ f1) (w : Walk R G1 J ds) (hv : ∀ i, Pr i = false → i ∈ vs)
    (q : AtLX R W (match lcMx vs t T Fe ds [] (wipeE e0 vs) with
      | .ok acc e1 => (match backE e0 e1 vs with
        | some e2 => .ok acc e2
        | none => .no)
      | .ex x e1 => (match backE e0 e1 vs with
        | some e2 => .ex x e2
        | none => .no)
      | .no => .no) G1 H1 f1 σ Q) {D : Addr} (hD : H1 D = none) :
    ∃ Wv : Nat → Nat → Hp → Prop, (∃ m, Wv 0 m (upd H1 D (.lst []))) ∧ ∀ i m H, Wv i m H → (J.stop i H ∧ Q (.ref D) H) ∨ (J.go i H ∧ ∃ Nx : Hp → Prop, (∀ H', Nx H' → ∃ m', m' < m ∧ Wv (i + 1) m' H') ∧
      ∀ x H', J.yld i H x H' → tG R Pr t x (L2.wipe σ vs) H' fun σ2 H2 => L2.wipe σ2 vs = L2.wipe σ vs ∧ tM R (fun _ _ _ _ => False) PB T σ2 H2 fun b H3 =>
        if b = true then tM R (fun c d _ H' => W c d σ H') (Rep R) Fe σ2 H3 fun y H4 => ∃ acc, H4 D = some (.lst acc) ∧ acc.length < sizeLine ∧ Nx (upd H4 D (.lst (acc ++ [y]))) else Nx H3) := by
  -- what is so at each turn
  let Inv1 : Nat → Hp → Prop := fun i H => ∃ G env f acc us, EnvOk R G H env (L2.wipe σ vs) f ∧ D ∉ f ∧ G D = none ∧ H D = some (.lst us) ∧ Reps R G acc us ∧ Stp G1 H1 f1 G H (D :: f) ∧
    AtLX R W (match lcMx vs t T Fe (ds.drop i) acc env with
      | .ok acc e1 => (match backE e0 e1 vs with
        | some e2 => .ok acc e2
        | none => .no)
      | .ex x e1 => (match backE e0 e1 vs with
        | some e2 => .ex x e2
        | none => .no)
      | .no => .no) G1 H1 f1 σ Q
  refine ⟨fun i m H => m = ds.length - i ∧ i ≤ ds.length ∧ Inv1 i H, ⟨ds.length, by simp, Nat.zero_le _, ?_⟩, ?_⟩
  · obtain ⟨f2, e2, s2⟩ := e1.wipe vs
    have gD : G1 D = none := by
      cases z : G1 D with
      | none => rfl
      | some u => rw [e1.sub _ _ z] at hD; cases hD
    have fD : D ∉ f2 := fun z => by
      obtain ⟨o, ho, _⟩ := e2.sl.there D z
      rw [hD] at ho; cases ho
    exact ⟨G1, _, f2, [], [], e2.beside gD fD (.free hD), fD, gD, upd_same, rfl, s2.trans (Stp.lay hD), by rw [List.drop_zero]; exact q⟩
  · rintro i m H ⟨rfl, hi, G, env, f, acc, us, ev, fD, gD, hDl, ra, st, q⟩
    obtain ⟨w1, w2⟩ := w i G H st.sub ev.sub
    by_cases hlt : i < ds.length
    · obtain ⟨go, yl⟩ := w2 ds[i] (by simp [hlt])
      refine .inr ⟨go, fun H' => Inv1 (i + 1) H', fun H' h => ⟨ds.length - (i + 1), by omega, rfl, hlt, h⟩, fun x H' hy => ?_⟩
      obtain ⟨G2, al, rx⟩ := yl x H' hy
      have ap := (al.stp f).apart hDl gD fD
      rw [List.drop_eq_getElem_cons hlt] at q
      simp only [lcMx] at q
      cases z : t ds[i] env with
      | none => rw [z] at q; exact q.elim
      | some env1 =>
        rw [z] at q
        dsimp only at q
        refine ⟨G2, env, f, ds[i], env1, ev.alo al, rx, z, fun σ2 f2 e2 s2 k2 => ?_⟩
        have hw := wipe_again hv k2
        refine ⟨hw, ?_⟩
        have st2 := st.trans (((al.stp f).trans s2).cons D)
        have ap2 := s2.apart ap.1 ap.2.1 fD
        refine ⟨G2, env1, f2, e2, ?_⟩
        cases z2 : T env1 with
        | no => rw [z2] at q; exact q.elim
        | ex x e => rw [z2] at q; exact q.elim
        | ok b e3 =>
          rw [z2] at q
          intro b' G3 H3 f3 s3 e4 p
          cases p
          have ap3 := s3.apart ap2.1 ap2.2.1 ap2.2.2
          have st3 := st2.trans (s3.cons D)
          have back : ∀ {G4 H4 : Hp} {f4 : List Addr} {e5 : List EV} {acc' : List DL.D} {us' : List V}, EnvOk R G4 H4 e5 σ2 f4 → D ∉ f4 → G4 D = none → H4 D = some (.lst us') → Reps R G4 acc' us' → Stp G1 H1 f1 G4 H4 (D :: f4) →
              AtLX R W (match lcMx vs t T Fe (ds.drop (i + 1)) acc' (wipeE e5 vs) with
                | .ok acc e1 => (match backE e0 e1 vs with
                  | some e2 => .ok acc e2
                  | none => .no)
                | .ex x e1 => (match backE e0 e1 vs with
                  | some e2 => .ex x e2
                  | none => .no)
                | .no => .no) G1 H1 f1 σ Q → Inv1 (i + 1) H4 := fun {G4 H4 f4 e5 acc' us'} k4 fD4 gD4 hD4 r4 st4 q4 => by
            obtain ⟨f6, e6, s6⟩ := k4.wipe vs
            rw [hw] at e6
            exact ⟨G4, _, f6, acc', us', e6, (fun z => by
              rcases s6.own D z with z | z
              · exact fD4 z
              · exact z.not hD4 (fun _ y => by cases y)), gD4, hD4, r4, st4.trans (s6.cons D), q4⟩
          cases b with
          | false => exact iteF (back e4 ap3.2.2 ap3.2.1 ap3.1 (ra.mono (al.sub.trans (s2.sub.trans s3.sub))) st3 q)
          | true =>
            refine iteT ⟨G3, e3, f3, e4, ?_⟩
            dsimp only at q
            cases z3 : Fe e3 with
            | no => rw [z3] at q; exact q.elim
            | ex x e5 =>
              rw [z3] at q
              intro c dd G4 H4 f4 s4 e6 xr
              dsimp only at q
              obtain ⟨f6, e7, s6⟩ := e6.wipe vs
              rw [hw] at e7
              have st4 := st3.trans (s4.cons D)
              cases z5 : backE e0 (wipeE e5 vs) vs with
              | none => rw [z5] at q; exact q.elim
              | some e8 =>
                rw [z5] at q
                obtain ⟨f8, k8, s8⟩ := e1.back vs st4.sub e7 z5
                exact q c dd G4 H4 f8 (((st4.trans (Stp.less fun a ha => List.mem_cons_of_mem _ ha)).trans s6).trans s8) k8 xr
            | ok d e5 =>
              rw [z3] at q
              intro y G4 H4 f4 s4 e6 p
              have ap4 := s4.apart ap3.1 ap3.2.1 ap3.2.2
              dsimp only at q
              by_cases hz : acc.length < 16777216
              · rw [if_pos hz] at q
                have ra4 := ra.mono (al.sub.trans (s2.sub.trans (s3.sub.trans s4.sub)))
                refine ⟨us, ap4.1, by rw [sizeLine_eq, ← ra4.length]; exact hz, ?_⟩
                exact back (e6.beside ap4.2.1 ap4.2.2 (.lst ap4.1)) ap4.2.2 ap4.2.1 upd_same (ra4.append (Reps.one p)) ((st3.trans (s4.cons D)).trans Stp.write) q
              · rw [if_neg hz] at q
                exact q.elim
    · have hi : i = ds.length := by omega
      subst hi
      rw [List.drop_length] at q
      simp only [lcMx] at q
      cases z : backE e0 env vs with
      | none => rw [z] at q; exact q.elim
      | some e2 =>
        rw [z] at q
        obtain ⟨f2, k2, s2⟩ := e1.back vs st.sub ev z
        refine .inl ⟨w1 (Nat.le_refl _), q D us G H f2 (st.trans (s2.cons D)) k2 hDl gD (fun z => ?_) ra⟩
        rcases s2.own D z with z | z
        · exact fD z
        · exact z.not hDl (fun _ y => by cases y)
end
end DL

namespace DL
open PySem PySem.Spec PyProof.Rows L2
variable [LT]
def lcBx (vs : List Nat) (t : TgF) (T : M Bool) (Fe : M D) (ds : List D) : M (List D) := fun e0 => match lcMx vs t T Fe ds [] (wipeE e0 vs) with
  | .ok acc e1 => (match backE e0 e1 vs with
    | some e2 => .ok acc e2
    | none => .no)
  | .ex x e1 => (match backE e0 e1 vs with
    | some e2 => .ex x e2
    | none => .no)
  | .no => .no
theorem lc_endX {R : RC} {W : WX} {m : Out (List D)} {G H : Hp} {f : List Addr} {σ : L2.St} {Q : VK} (q : At R W (Rep R) (m.bind fun ds e => .ok (.lst ds) e) G H f σ Q) : AtLX R W m G H f σ Q := by
  cases m with
  | no => exact q
  | ex x e => exact q
  | ok ds e =>
    intro a vs G' H' f' s e' h hg hf r
    refine q (.ref a) (upd G' a (.lst vs)) H' f' (s.trans (Stp.freeze hg)) (e'.frozen hg h hf) ⟨a, vs, rfl, upd_same, r.mono ?_⟩
    exact fun c u z => by rw [upd_ne (ne_of_none z hg)]; exact z
section
variable {X : Cx} {W : WX} {Pr : Nat → Bool} {elt tg iter : Expr} {ifs : List Expr} {scope : Scope} {own : List (Str × Nat)} {Fi : M (List D)} {t : TgF} {T : M Bool} {Fe : M D} {vs : List Nat} {pos spos py : Pos} {y : Str} {i : Nat}
theorem lc_tellsX {σ : L2.St} {H : Hp} {Q : VK} (h : tM (rc X) W (Rep (rc X)) (lstM (bnd Fi (lcBx vs t T Fe))) σ H Q) :
    tLcX (tI (rc X) W Fi) (tG (rc X) (prOf vs) t) (tM (rc X) Wno PB T) (fun Wb => tM (rc X) Wb (Rep (rc X)) Fe) vs W σ H Q := by
  have h : tM (rc X) W (Rep (rc X)) (bnd Fi fun ds e => (lcBx vs t T Fe ds e).bind fun ds e => .ok (.lst ds) e) σ H Q := by
    obtain ⟨G, env, f, e, q⟩ := h
    refine ⟨G, env, f, e, ?_⟩
    have q : At (rc X) W (Rep (rc X)) (((Fi env).bind (lcBx vs t T Fe)).bind fun ds e => .ok (.lst ds) e) G H f σ Q := q
    show At (rc X) W (Rep (rc X)) ((Fi env).bind fun ds e => (lcBx vs t T Fe ds e).bind fun ds e => .ok (.lst ds) e) G H f σ Q
    cases z : Fi env with
    | ok a e => rw [z] at q; exact q
    | ex x e => rw [z] at q; exact q
    | no => rw [z] at q; exact q
  refine tM_then (P1 := fun G ds (J : It) => Walk (rc X) G J ds) h fun G1 env1 f1 ds J H1 e w q => fun D hD => ?_
  exact lc_readX (R := rc X) e w (fun i => prOf_in) (lc_endX q) hD
theorem ds_setLcX (hv : own.map (·.2) = vs) (hc : X.calm = true) (hN : X.N.Nodup) (hst : X.stack = X.env :: X.outer) (hf : X.env.frame = some X.env.locals) (tk : Takes X W) (hy : X.N[i]? = some y) (hyl : X.env.scope.names.lookup y = some .local) (hp : Pr i = false)
    (hsw : swapsWith (.ListComp elt [⟨tg, iter, ifs, 0⟩] scope pos) (some (.Name y py)) spos.line X.env = pure true) (hi : DI X W tg iter Fi) (ok : BlkOk X.N X.env.scope scope own)
    (hg : ∀ (s : Shared) (H : Hp) (C : Addr) (cl : List (Str × Addr)) (fp : List Addr), DG (X.blk s H scope (compEnvC scope cl C X.env) fp) (prOf vs) tg t)
    (ht : ∀ (s : Shared) (H : Hp) (C : Addr) (cl : List (Str × Addr)) (fp : List Addr), DTs (X.blk s H scope (compEnvC scope cl C X.env) fp) Wno ifs T)
    (he : ∀ (s : Shared) (H : Hp) (C : Addr) (cl : List (Str × Addr)) (fp : List Addr) (pn : List (Addr × Obj)) (xe : Value → Shared → Prop) (Wb : WX), (∀ σ, PassesAt (L2.CX X.prog X.w) (blkR X s H scope C cl fp pn xe) σ (WEat Wb σ)) → DE (blkR X s H scope C cl fp pn xe) Wb elt Fe)
    (hs : ∀ x, foldedSetIterable iter X.env x = pure x := by intro _; rfl) :
    DS X W Pr (.Assign [.Name y py] (.ListComp elt [⟨tg, iter, ifs, 0⟩] scope pos) spos) (setS i (lstM (bnd Fi (lcBx vs t T Fe)))) := by
  subst hv
  exact PS.imp (ps_setLcX (g := tG (rc X) (prOf (own.map fun (p : Str × Nat) => p.2)) t) (tt := tM (rc X) Wno PB T) (te := fun Wb => tM (rc X) Wb (Rep (rc X)) Fe) hc hN hst hf tk hy hyl hsw hi ok hg ht (fun s H C cl fp pn xe Wb hx => he s H C cl fp pn xe Wb hx) hs) fun D σ H h => lc_tellsX (tS_bnd (P := Rep (rc X)) h fun G1 env1 f1 d v H1 e p q => by
    cases z : put i d env1 with
    | none => rw [z] at q; exact q.elim
    | some e1 =>
      rw [z] at q
      obtain ⟨f', e', s'⟩ := put_ok e z p
      exact q _ G1 H1 f' s' e' (Kp.set hp))
end
end DL

namespace DL
open PySem PyProof.Rows L2
variable {X : XV → List EV → Prop}
theorem lcMx_wp {vs : List Nat} {t : TgF} {T : M Bool} {Fe : M D} {Q : List D → List EV → Prop} (I : List D → List D → List EV → Prop)
    (hs : ∀ d r acc e, I (d :: r) acc e → ∃ e1, t d e = some e1 ∧ (T e1).wp (fun b e2 => if b then (Fe e2).wp (fun x e3 => acc.length < 16777216 ∧ I r (acc ++ [x]) (wipeE e3 vs)) (fun x e3 => X x (wipeE e3 vs)) else I r acc (wipeE e2 vs)) fun _ _ => False)
    (he : ∀ acc e, I [] acc e → Q acc e) : ∀ {ds acc : List D} {e : List EV}, I ds acc e → (lcMx vs t T Fe ds acc e).wp Q X
  | [], acc, e, h => he acc e h
  | d :: r, acc, e, h => by
    obtain ⟨e1, h1, h2⟩ := hs d r acc e h
    unfold lcMx
    rw [h1]
    dsimp only
    cases q : T e1 with
    | no => rw [q] at h2; exact h2
    | ex x e2 => rw [q] at h2; exact h2.elim
    | ok b e2 =>
      rw [q] at h2
      cases b with
      | false => exact lcMx_wp I hs he h2
      | true =>
        have h2 : (Fe e2).wp (fun x e3 => acc.length < 16777216 ∧ I r (acc ++ [x]) (wipeE e3 vs)) (fun x e3 => X x (wipeE e3 vs)) := h2
        dsimp only
        cases q2 : Fe e2 with
        | no => rw [q2] at h2; exact h2
        | ex x e3 => rw [q2] at h2; exact h2
        | ok x e3 =>
          rw [q2] at h2
          dsimp only
          rw [if_pos h2.1]
          exact lcMx_wp I hs he h2.2
theorem lcBx_wp {vs : List Nat} {t : TgF} {T : M Bool} {Fe : M D} {Q : List D → List EV → Prop} {ds : List D} {e : List EV} (I : List D → List D → List EV → Prop)
    (hs : ∀ d r acc e1, I (d :: r) acc e1 → ∃ e2, t d e1 = some e2 ∧ (T e2).wp (fun b e3 => if b then (Fe e3).wp (fun x e4 => acc.length < 16777216 ∧ I r (acc ++ [x]) (wipeE e4 vs)) (fun x e4 => wpO (backE e (wipeE e4 vs) vs) fun e5 => X x e5) else I r acc (wipeE e3 vs)) fun _ _ => False)
    (he : ∀ acc e1, I [] acc e1 → wpO (backE e e1 vs) fun e2 => Q acc e2) (h0 : I ds [] (wipeE e vs)) : (lcBx vs t T Fe ds e).wp Q X := by
  have h := lcMx_wp (X := fun x e1 => wpO (backE e e1 vs) fun e2 => X x e2) (Q := fun acc e1 => wpO (backE e e1 vs) fun e2 => Q acc e2) I hs he h0
  unfold lcBx
  cases q : lcMx vs t T Fe ds [] (wipeE e vs) with
  | no => rw [q] at h; exact h
  | ex x e1 =>
    rw [q] at h
    obtain ⟨e2, h1, h2⟩ := h
    dsimp only
    rw [h1]
    exact h2
  | ok acc e1 =>
    rw [q] at h
    obtain ⟨e2, h1, h2⟩ := h
    dsimp only
    rw [h1]
    exact h2
end DL

namespace DL
open PySem PySem.Spec PyProof.Rows L2
variable [LT]
/-! ### a call whose arguments are made on the spot: own things given for good -/
theorem Sls.split {R : RC} {G H : Hp} : ∀ {es : List EV} {s : List (Option V)} {env : List EV} {σ : L2.St} {f : List Addr}, Sls R G H (es ++ env) (s ++ σ) f → es.length = s.length → ∃ fa fe, f = fa ++ fe ∧ Sls R G H es s fa ∧ Sls R G H env σ fe
  | [], [], env, σ, f, h, _ => ⟨[], f, rfl, ⟨rfl, rfl⟩, h⟩
  | [], _ :: _, _, _, _, _, l => by cases l
  | _ :: _, [], _, _, _, _, l => by cases l
  | ev :: es, s0 :: s, env, σ, f, h, l => by
    obtain ⟨t0, tr, f0, fr, h1, h2, h3, h4⟩ := h
    cases h1
    subst h2
    obtain ⟨fa, fe, e, g1, g2⟩ := Sls.split (es := es) (s := s) h4 (by simpa using l)
    subst e
    exact ⟨f0 ++ fa, fe, by rw [List.append_assoc], ⟨s0, s, f0, fa, rfl, rfl, h3, g1⟩, g2⟩
def callE0 (S : List EV → Out EV) (evs : List EV) : M EV := fun e => match S evs with
  | .ok r _ => .ok r e
  | .ex x _ => .ex x e
  | .no => .no
theorem callE_read {R : RC} {W : WX} {S : List EV → Out EV} {evs : List EV} {vs : List V} {G H : Hp} {e : List EV} {σ : L2.St} {f : List Addr} {Q : VK} {n : Nat} (ev : EnvOk R G H (evs ++ e) (vs.map some ++ σ) f) (hl : vs.length = evs.length) (hn : vs.length = n)
    (q : AtO R W (callE0 S evs e) G H f σ Q) : spD R n S vs H Q (fun c d H => W c d σ H) := by
  refine ⟨hn, ?_⟩
  obtain ⟨fa, fe, hf, g2, g1⟩ := Sls.split ev.sl (by rw [List.length_map]; exact hl.symm)
  subst hf
  have ndf := ev.nd
  refine ⟨G, evs, fa, ⟨ev.sub, g2, (List.nodup_append.mp ndf).1, fun c hc => ev.fr c (List.mem_append_left _ hc), ev.nt, ev.tb⟩, ?_⟩
  have stay : ∀ {G' H' : Hp} {f' : List Addr}, Stp G H fa G' H' f' → Sls R G' H' e σ fe ∧ (∀ c ∈ fe, G' c = none) ∧ (∀ c ∈ f', c ∉ fe) := fun {G' H' f'} s => by
    have dis : ∀ c, c ∈ fe → c ∉ fa := fun c hc hca => (List.nodup_append.mp ndf).2.2 c hca c hc rfl
    refine ⟨g1.keep s.sub (fun c hc o h => by
      obtain ⟨u, hu, nt, _⟩ := g1.there c hc
      rw [hu] at h; cases h
      exact s.keep c o hu (dis c hc) nt), fun c hc => ?_, fun c hc hce => ?_⟩
    · cases q : G' c with
      | none => rfl
      | some o =>
        obtain ⟨u, hu, hnt, _⟩ := g1.there c hc
        rcases s.grow c o q with z | z | z
        · rw [ev.fr c (List.mem_append_right _ hc)] at z; cases z
        · exact (z.not hu hnt).elim
        · exact absurd z (dis c hc)
    · obtain ⟨u, hu, hnt, _⟩ := g1.there c hce
      rcases s.own c hc with z | z
      · exact dis c hce z
      · exact z.not hu hnt
  have wide : ∀ {G' H' : Hp} {f' f2 : List Addr}, Stp G H fa G' H' f' → (∀ c ∈ f2, c ∈ f' ∨ c ∈ fe) → Stp G H (fa ++ fe) G' H' f2 := fun {G' H' f' f2} s hs =>
    ⟨s.sub, fun c o h hc => s.keep c o h fun z => hc (List.mem_append_left _ z), fun c o h => (s.grow c o h).imp id (Or.imp id fun z => List.mem_append_left _ z), fun c hc => by
      rcases hs c hc with z | z
      · exact (s.own c z).imp (fun z => List.mem_append_left _ z) id
      · exact .inl (List.mem_append_right _ z)⟩
  unfold callE0 at q
  cases zs : S evs with
  | no => rw [zs] at q; exact q.elim
  | ok r os =>
    rw [zs] at q
    intro v G' H' f' s k
    obtain ⟨t1, t2, t3⟩ := stay s
    obtain ⟨s0, sr, f0, fr, k1, k2, k3, k4⟩ := k.sl
    cases k1
    subst k2
    have ndk := k.nd
    refine q v G' H' (f0 ++ fe) (wide s fun c hc => ?_) ⟨k.sub, ⟨some v, σ, f0, fe, rfl, rfl, k3, t1⟩, ?_, fun c hc => ?_, k.nt, k.tb⟩
    · rcases List.mem_append.mp hc with z | z
      · exact .inl (List.mem_append_left _ z)
      · exact .inr z
    · refine List.nodup_append.mpr ⟨(List.nodup_append.mp ndk).1, (List.nodup_append.mp ndf).2.1, fun x hx y hy hxy => ?_⟩
      subst hxy
      exact t3 x (List.mem_append_left _ hx) hy
    · rcases List.mem_append.mp hc with z | z
      · exact k.fr c (List.mem_append_left _ z)
      · exact t2 c z
  | ex x os =>
    rw [zs] at q
    intro c d G' H' f' s k xr
    obtain ⟨t1, t2, t3⟩ := stay s
    exact q c d G' H' fe (wide s fun c hc => .inr hc) ⟨k.sub, t1, (List.nodup_append.mp ndf).2.1, t2, k.nt, k.tb⟩ xr
theorem tO_bndOs {F : M (List EV)} {k : List EV → M EV} {R : RC} {W : WX} {σ : L2.St} {H : Hp} {Q : VK} {Q' : List V → Hp → Prop} (h : tO R W (bnd F k) σ H Q)
    (w : ∀ G1 env1 f1 evs vs H1, EnvOk R G1 H1 (evs ++ env1) (vs.map some ++ σ) f1 → vs.length = evs.length → AtO R W (k evs env1) G1 H1 f1 σ Q → Q' vs H1) : ∃ G env f, EnvOk R G H env σ f ∧ AtOs R W (F env) G H f σ Q' := by
  obtain ⟨G, env, f, e, q⟩ := h
  refine ⟨G, env, f, e, ?_⟩
  have q : AtO R W ((F env).bind k) G H f σ Q := q
  cases z : F env with
  | ok a e1 => rw [z] at q; exact fun b G' H' f' s' e' hl => w G' e1 f' a b H' e' hl (AtO.step q s')
  | ex x e1 => rw [z] at q; exact q
  | no => rw [z] at q; exact q
def callE (n : Nat) (S : List EV → Out EV) (Fs : M (List EV)) : M EV := bnd Fs fun evs e => if evs.length = n then callE0 S evs e else .no
section
variable {X : Cx} {W : WX} {k n : Nat} {f C : Addr} {fd : FuncData} {ps : List Str} {S : List EV → Out EV} {x : Str} {p pos : Pos}
theorem do_callE {es : List Expr} {e : Expr} {Fs : M (List EV)} (F : FnG X.prog X.w X.K X.mg X.base k f fd ps S) (hn : ps.length = n) (hgd : X.A.guards = some []) (hr : Room k X.A) (hg : Gl X x) (hm : X.mg x = some (.ref f)) (hk : PySem.W.keepIn X.K (.ref f) = true) (hb : Binds X.K fd ps [])
    (hx : ∀ σ, PassesAt (CX X.prog X.w) X σ (WEat W σ)) (ha : DOs X W (e :: es) Fs) (hdb : (x == ("__debug__" : Str)) = false := by decide)
    (he : starEach (e :: es) X.env = (false, eval e X.env) :: starEach es X.env := by rfl) (hpl : (backTo pos (starEach es X.env)).any (·.1) = false := by rfl) : DO X W (.Call (.Name x p) (e :: es) [] pos) (callE n S Fs) := by
  subst hn
  constructor
  intro pins s σ H Q I h
  refine wpAny_Call_Name_kw (ld_glob I hg hm ?_ hdb)
  have h2 := tO_bndOs (Q' := fun vs H1 => spD (rc X) ps.length S (vs ++ []) H1 Q (WEat W σ)) h fun G1 env1 f1 evs vs H1 e1 hl q1 => by
    by_cases hc : evs.length = ps.length
    · rw [if_pos hc] at q1
      rw [List.append_nil]
      exact callE_read e1 hl (hl.trans hc) q1
    · rw [if_neg hc] at q1
      exact q1.elim
  refine PySem.W.callWith_K (h₀ := X.base) I.ok.mod.kin hk (thn (ha.run pos pins s σ H _ I h2) ?_) he hpl
  rintro us s1 ⟨vs, H1, I1, r, q⟩
  exact ⟨I1.kIn, run_fnG F hgd hr hb .nil (hx σ) I1 r q⟩
end
end DL

namespace DL
open PySem PyProof.Rows L2
variable {e : List EV} {Q : EV → List EV → Prop} {X : XV → List EV → Prop}
@[simp] theorem wp_callE0 {S : List EV → Out EV} {evs : List EV} : (callE0 S evs e).wp Q X = (S evs).wp (fun r _ => Q r e) (fun x _ => X x e) := by
  unfold callE0
  cases S evs <;> rfl
@[simp] theorem wp_callE {n : Nat} {S : List EV → Out EV} {Fs : M (List EV)} : (callE n S Fs e).wp Q X = (Fs e).wp (fun evs e1 => evs.length = n ∧ (S evs).wp (fun r _ => Q r e1) (fun x _ => X x e1)) X := by
  unfold callE
  rw [wp_bnd]
  congr 1
  funext evs e1
  by_cases h : evs.length = n
  · rw [if_pos h, wp_callE0]
    exact propext ⟨fun z => ⟨h, z⟩, fun z => z.2⟩
  · rw [if_neg h]
    exact propext ⟨fun z => z.elim, fun z => absurd z.1 h⟩
end DL
namespace DL
open PySem PyProof.Rows L2
@[simp] theorem wp_tryS {B : MS} {hs : List Hd} {e : List EV} {P : Pe} : (tryS B hs e).wp P = (B e).wp { P with ex := fun x e1 => (tryH x e1 hs).wp P } := by
  unfold tryS
  cases B e <;> rfl
@[simp] theorem wp_rtS {r : EV} {e : List EV} {P : Pe} : (SO.rt r e).wp P = P.rt r e := rfl
end DL

namespace DL
open PySem PySem.Spec PyProof.Rows L2
variable [LT]
/-! ### lent: an expression that only reads one's own things, its value without parts -/
def scal : D → Bool
  | .non => true
  | .bl _ => true
  | .int _ => true
  | .str _ => true
  | _ => false
theorem Rep.scal {R : RC} {G G' : Hp} {d : D} {v : V} (h : DL.scal d = true) (r : Rep R G d v) : Rep R G' d v := by
  cases d <;> first | exact r | cases h
/-- all own things seen as plain data -/
def lendE (e : List EV) : List EV := e.map fun ev => match toD ev with
  | some d => .v d
  | none => .un
theorem Sls.lend {R : RC} {G H : Hp} (s : Sub G H) : ∀ {es : List EV} {σ : L2.St} {f : List Addr}, Sls R G H es σ f → (∀ a ∈ f, G a = none) → Sls R (frz G H f) H (lendE es) σ []
  | [], σ, f, h, g => ⟨h.1, rfl⟩
  | ev :: es, σ, f, h, g => by
    obtain ⟨s0, sr, f0, fr, h1, h2, h3, h4⟩ := h
    subst h1 h2
    have r := Sls.lend s h4 fun a ha => g a (List.mem_append_right _ ha)
    have r2 : Sls R (frz G H (f0 ++ fr)) H (lendE es) sr [] := r.keep (frz_mono s fun a ha => List.mem_append_right _ ha) fun a ha => by cases ha
    cases t : toD ev with
    | none =>
      refine ⟨s0, sr, [], [], rfl, rfl, ?_, r2⟩
      simp only [t]
      rfl
    | some d =>
      have hv : ∃ v, s0 = some v := by
        cases ev with
        | un => cases t
        | v d => obtain ⟨_, w, hw, _⟩ := h3; exact ⟨w, hw⟩
        | ol xs => obtain ⟨a, _, _, hw, _⟩ := h3; exact ⟨_, hw⟩
        | oi c fn fv => obtain ⟨a, _, _, _, _, hw, _⟩ := h3; exact ⟨_, hw⟩
        | od _ _ _ => cases t
      obtain ⟨v, rfl⟩ := hv
      have q : Rep R (frz G H (f0 ++ fr)) d v := (Sl.toD s h3 (fun a ha => g a (List.mem_append_left _ ha)) t).mono (frz_mono s fun a ha => List.mem_append_left _ ha)
      refine ⟨some v, sr, [], [], rfl, rfl, ?_, r2⟩
      simp only [t]
      exact ⟨rfl, v, rfl, q⟩
theorem EnvOk.lend {R : RC} {G H : Hp} {env : List EV} {σ : L2.St} {f : List Addr} (e : EnvOk R G H env σ f) : EnvOk R (frz G H f) H (lendE env) σ [] := by
  refine ⟨fun a o h => ?_, e.sl.lend e.sub e.fr, List.nodup_nil, fun a ha => (by cases ha), frz_nt e.nt e.sl.there, e.tb⟩
  unfold frz at h
  by_cases z : a ∈ f
  · rw [if_pos z] at h; exact h
  · rw [if_neg z] at h; exact e.sub _ _ h
/-- .. and given back -/
theorem EnvOk.unlend {R : RC} {G H G' H' : Hp} {env e1 : List EV} {σ : L2.St} {f f' : List Addr} (e : EnvOk R G H env σ f) (s : Stp (frz G H f) H [] G' H' f') (k : EnvOk R G' H' e1 σ f') : Stp G H f G H' f ∧ EnvOk R G H' env σ f := by
  have own : ∀ a ∈ f, ∀ o, H a = some o → H' a = some o := fun a ha o ho => by
    obtain ⟨u, hu, nt, _⟩ := e.sl.there a ha
    rw [hu] at ho
    cases ho
    exact s.keep a o hu (fun z => by cases z) nt
  exact ⟨⟨.refl G, fun a o h _ nt => s.keep a o h (fun z => by cases z) nt, fun a o h => .inl h, fun a ha => .inl ha⟩,
    ⟨fun a o h => k.sub _ _ (s.sub _ _ (frz_sub e.fr _ _ h)), e.sl.keep (.refl G) own, e.nd, e.fr, e.nt, k.tb⟩⟩
section
variable {X : Cx} {W : WX} {Pr : Nat → Bool} {a : Expr} {Fa : M D} {Ft : M Bool}
def lendM (F : M D) : M D := fun e => match F (lendE e) with
  | .ok d _ => if scal d = true then .ok d e else .no
  | _ => .no
theorem de_lend (h : DE X W a Fa) : DE X W a (lendM Fa) := PE.imp h fun σ H Q ⟨G, env, f, e, q⟩ => by
  refine ⟨frz G H f, lendE env, [], e.lend, ?_⟩
  unfold lendM at q
  cases z : Fa (lendE env) with
  | ok d e1 =>
    rw [z] at q
    dsimp only at q
    by_cases hs : scal d = true
    · rw [if_pos hs] at q
      intro v G' H' f' s k r
      obtain ⟨s2, k2⟩ := e.unlend s k
      exact q v G H' f s2 k2 (r.scal hs)
    · rw [if_neg hs] at q
      exact q.elim
  | ex x e1 => rw [z] at q; exact q.elim
  | no => rw [z] at q; exact q.elim
def lendT (F : M Bool) : M Bool := fun e => match F (lendE e) with
  | .ok b _ => .ok b e
  | _ => .no
theorem dt_lend (h : DT X W a Ft) : DT X W a (lendT Ft) := PT.imp h fun σ H Q ⟨G, env, f, e, q⟩ => by
  refine ⟨frz G H f, lendE env, [], e.lend, ?_⟩
  unfold lendT at q
  cases z : Ft (lendE env) with
  | ok d e1 =>
    rw [z] at q
    intro v G' H' f' s k r
    obtain ⟨s2, k2⟩ := e.unlend s k
    exact q v G H' f s2 k2 r
  | ex x e1 => rw [z] at q; exact q.elim
  | no => rw [z] at q; exact q.elim
end
end DL

namespace DL
open PySem PySem.Spec PyProof.Rows L2
variable [LT]
/-! ### dict(xs), xs a tuple of pairs -/
section
variable {X : Cx}
theorem tpA_seq {pins : List (Addr × Obj)} {σ : L2.St} {G H : Hp} {s : Shared} {a : Addr} {xs : List V} (I : Inv X pins σ H s) (sb : Sub G H) (h : TpA X.K G a xs) : ∃ its : List Value, Vals xs its ∧ PlainSeq "tuple" s.heap a its.toArray ∧ xs.length ≤ sizeLine := by
  rcases h with ⟨o, h, hd⟩ | ⟨us, n, sl, h1, h2, h3⟩
  · obtain ⟨e1, e2, its, r, o2, e3, hc, n, dt⟩ := I.hok a _ (sb _ _ h)
    rw [e1] at e3
    cases e3
    exact ⟨its, r, ⟨o, n, e1, hc, hd, dt⟩, e2⟩
  · exact ⟨us, h3, ⟨_, n, I.kIn a _ h1, rfl, rfl, rfl⟩, by rw [h3.length]; exact h2⟩
theorem pairs_ofZ {pins : List (Addr × Obj)} {σ : L2.St} {H : Hp} {s : Shared} (I : Inv X pins σ H s) : ∀ {ps : List Addr} {kvs : List (Key × V)}, Paired (fun p kv => SqT X.K H p [kV kv.1, kv.2]) ps kvs →
    ∃ (prs : List (Key × Value)) (pv : List (Value × Value)), KV kvs prs ∧ prs.length = ps.length ∧ pv.length = ps.length ∧ ∀ (j : Nat) (u y : Value), pv[j]? = some (u, y) → (∃ b, ps[j]? = some b ∧ IsTup s.heap b #[u, y]) ∧ ∃ k, prs[j]? = some (k, y) ∧ keyIs k u = true
  | _, _, .nil => ⟨[], [], .nil, rfl, rfl, fun j u y e => by simp at e⟩
  | _, _, .cons (a := p) (b := kv) h t => by
    obtain ⟨prs, pv, r, hl, hl2, hp⟩ := pairs_ofZ I t
    obtain ⟨its, rv, ht, _⟩ := I.tuple h
    obtain ⟨u, y, ei, ru, ry⟩ := vals2 rv
    subst ei
    refine ⟨(kv.1, y) :: prs, (u, y) :: pv, .cons ⟨rfl, ry⟩ r, by rw [List.length_cons, List.length_cons, hl], by rw [List.length_cons, List.length_cons, hl2], fun j u' y' e => ?_⟩
    cases j with
    | zero =>
      have e' : (u, y) = (u', y') := Option.some.inj e
      cases e'
      exact ⟨⟨p, rfl, ht⟩, _, rfl, kV_is (P := X.prog) (w := X.w) ru⟩
    | succ j =>
      obtain ⟨⟨b, e1, e2⟩, k, e3, e4⟩ := hp j u' y' (by simpa using e)
      exact ⟨⟨b, by simpa using e1, e2⟩, k, by simpa using e3, e4⟩
theorem call_dictZ (hcalm : X.calm = true) : CallR X (.type "dict") (fun xs H Q => ∃ (G : Hp) (a : Addr) (ps : List Addr) (kvs : List (Key × V)), xs = [.ref a] ∧ Sub G H ∧ TpA X.K G a (ps.map V.ref) ∧ Paired (fun p kv => SqT X.K H p [kV kv.1, kv.2]) ps kvs ∧
    ∀ p, H p = none → Q (.ref p) (upd H p (.dK (mergeK [] kvs)))) := by
  intro pins s σ H xs us Q I r ⟨G, a, ps, kvs, ex, sb, hq, hp, q⟩
  subst ex
  obtain ⟨u, eu, rx⟩ := vals1 r
  subst eu
  cases rx
  obtain ⟨its, rv, pl, hz⟩ := tpA_seq I sb hq
  have ei := refs_at rv
  subst ei
  rw [List.length_map] at hz
  obtain ⟨prs, pv, rel, hl, hl2, hpr⟩ := pairs_ofZ I hp
  have ok : PairItems s.heap (ps.map Value.ref).toArray (fun j => ps.getD j 0) pv := by
    refine ⟨by simp [hl2], fun j k v e => ?_⟩
    obtain ⟨⟨b, e1, e2⟩, _⟩ := hpr j k v e
    have eb : ps.getD j 0 = b := by rw [List.getD_eq_getElem?_getD, e1]; rfl
    dsimp only
    rw [eb]
    exact ⟨by simp [e1], .inl e2⟩
  have hv : PairsHave (mixKind X.prog X.w) pv.length (PairRel pv) prs := ⟨by rw [hl, hl2], fun i u y e => (hpr i u y e).2⟩
  refine PySem.call_dict_pairs (knd := mixKind X.prog X.w) (kvs := prs) (PairArg.tuple a (ps.map Value.ref).toArray (fun j => ps.getD j 0) pv) (I.ok.hd hcalm) ⟨pl, ok⟩ hv (by rw [hl2]; exact hz) fun h' tk hd' k => ?_
  have hm : (s.heap.objs.size == sysModules) = false := beq_eq_false_iff_ne.mpr (Nat.ne_of_gt I.big)
  have hlen : (mergeK [] kvs).length ≤ sizeLine := by
    refine Nat.le_trans (length_mergeK kvs []) ?_
    rw [List.length_nil, Nat.zero_add, rel.length, hl]
    exact hz
  exact ⟨.ref s.heap.objs.size, upd H s.heap.objs.size (.dK (mergeK [] kvs)), I.laid (t' := tk) (fun b o e => k b o (by simp) e) (Nat.le_refl _) (show ObjOk X.prog X.w _ _ _ (.dK (mergeK [] kvs)) from ⟨hlen, hm, merged [] prs, KV.merge rel .nil, hd'⟩), rfl, q _ (I.hok.fresh (Nat.le_refl _))⟩
/-- the pairs, one behind the other -/
def mrg : List D → List D → List D → Option (List D × List D)
  | ks, ds, [] => some (ks, ds)
  | ks, ds, x :: r => match x with
    | .tup [k, v] => if (keyK k).isSome = true then mrg (putKs ks k) (putDs ks ds k v) r else none
    | _ => none
theorem mrg_ok {R : RC} {G H : Hp} (sb : Sub G H) : ∀ {xs : List D} {acc : List (Key × V)} {ds kz dz : List D} {vs : List V}, Reps R G ds (acc.map (·.2)) → Reps R G xs vs → mrg (acc.map fun p => keyD p.1) ds xs = some (kz, dz) →
    ∃ (ps : List Addr) (kvs : List (Key × V)), vs = ps.map V.ref ∧ Paired (fun p kv => SqT R.K H p [kV kv.1, kv.2]) ps kvs ∧ kz = (mergeK acc kvs).map (fun p => keyD p.1) ∧ Reps R G dz ((mergeK acc kvs).map (·.2))
  | [], acc, ds, kz, dz, vs, ra, rx, h => by
    cases h
    rw [show vs = [] from rx]
    exact ⟨[], [], rfl, .nil, rfl, ra⟩
  | x :: xs, acc, ds, kz, dz, vs, ra, rx, h => by
    obtain ⟨v, vr, rfl, r1, r2⟩ := rx
    unfold mrg at h
    split at h
    · rename_i k d
      obtain ⟨a, ws, rfl, t1, t2⟩ := r1
      obtain ⟨w1, wr, rfl, t3, t4⟩ := t2
      obtain ⟨w2, wr2, rfl, t5, t6⟩ := t4
      have e0 : wr2 = [] := t6
      subst e0
      by_cases hk : (keyK k).isSome = true
      · rw [if_pos hk] at h
        obtain ⟨kd, hkd⟩ := Option.isSome_iff_exists.mp hk
        have ek := keyK_eq hkd
        subst ek
        have ew := rep_keyD t3
        subst ew
        obtain ⟨p1, p2⟩ := put_gen (R := R) (G := G) eqB_k acc kd ra t5
        rw [← p1] at h
        obtain ⟨ps, kvs, e1, e2, e3, e4⟩ := mrg_ok sb p2 r2 h
        exact ⟨a :: ps, (kd, w2) :: kvs, by rw [e1]; rfl, .cons (sb.tpA t1).sq e2, e3, e4⟩
      · rw [if_neg hk] at h
        cases h
    · cases h
end
section
variable {X : Cx} {W : WX} {e o k : Expr} {pos p apos cpos : Pos} {x : Str} {Fs : M (List D)} {Fo : M EV} {Fk : M D} {Fz : M (List EV)}
def dictM (Fs : M (List D)) : M EV := bnd Fs fun ds e => match ds with
  | [.tup xs] => (match mrg [] [] xs with
    | some (ks, vs) => .ok (.od false ks (vs.map .v)) e
    | none => .no)
  | _ => .no
theorem do_dictZ (hc : X.calm = true) (hg : Gl X x) (hm : X.mg x = none) (hv : bootBuiltins x = some (.type "dict")) (ha : DAs X W [e] Fs) (hn : x ≠ "__name__" := by decide) (hdb : (x == ("__debug__" : Str)) = false := by decide)
    (he : starEach [e] X.env = (false, eval e X.env) :: starEach [] X.env := by rfl) (hpl : (backTo pos (starEach [] X.env)).any (·.1) = false := by rfl) : DO X W (.Call (.Name x p) [e] [] pos) (dictM Fs) := by
  refine PE.imp (pe_callTy (call_dictZ hc) hg hm hv ha hn hdb he hpl) fun σ H Q h => ?_
  refine tO_bind (P1 := Reps (rc X)) h fun G1 env1 f1 ds vs H1 e1 p1 q1 => ?_
  split at q1
  · rename_i xs
    obtain ⟨v, rfl, a, ws, rfl, t1, t2⟩ := p1.one'
    cases z : mrg [] [] xs with
    | none => rw [z] at q1; exact q1.elim
    | some t =>
      obtain ⟨kz, dz⟩ := t
      rw [z] at q1
      obtain ⟨ps, kvs, e3, e4, e5, e6⟩ := mrg_ok (R := rc X) (acc := []) (ds := []) e1.sub rfl t2 z
      subst e3
      refine ⟨G1, a, ps, kvs, rfl, e1.sub, t1, e4, fun q hq => ?_⟩
      refine q1 (.ref q) G1 _ (q :: f1) (Stp.lay hq) (lay_dict e1 hq ?_ e6)
      rw [e5]
      exact .k _ upd_same
  · exact q1.elim
/-- d.get(k), d one's own, laid aside behind -/
def get1M (Fo : M EV) (Fk : M D) : M D := fun e => (Fo e).bind fun ev e0 => match ev with
  | .od false ks xs => (Fk e0).bind fun k e => match plainL xs with
    | some ds => if (keyK k).isSome = true then .ok ((getK ks ds k).getD .non) e else .no
    | none => .no
  | _ => .no
theorem de_get1 (hu : X.A.units + 1 < cLine) (ho : DO X W o Fo) (hk : DE X W k Fk) (m : M1 X o "get" apos k cpos) : DE X W (.Call (.Attribute o "get" apos) [k] [] cpos) (get1M Fo Fk) := by
  refine PE.imp (pe_dget1 hu ho hk m) fun σ H Q ⟨G, env, f, e, q⟩ => ?_
  refine ⟨G, env, f, e, ?_⟩
  unfold get1M at q
  cases z : Fo env with
  | no => rw [z] at q; exact q
  | ex y e1 => rw [z] at q; exact q
  | ok ev e1 =>
    rw [z] at q
    intro v G' H' f' s k1
    dsimp only [Out.bind] at q
    cases ev with
    | od t ks xs =>
      cases t with
      | true => exact q.elim
      | false =>
        dsimp only at q
        obtain ⟨fr, k2, hfr, hold⟩ := k1.hold
        obtain ⟨s0, sr, f0, f9, h1, h2, h3, h4⟩ := k1.sl
        cases h1
        obtain ⟨a, vs, f8, h5, h6, h7, h8⟩ := h3
        cases h5
        replace q := At.step q s
        refine ⟨a, rfl, ?_, G', e1, fr, k2, ?_⟩
        · generalize ht : false = tt at h6
          cases h6 with
          | k kvs h => exact .inl ⟨kvs, .inl h⟩
          | t kvs h => cases ht
        cases z2 : Fk e1 with
        | no => rw [z2] at q; exact q
        | ex y e2 =>
          rw [z2] at q
          intro c d G2 H2 f2 s2 k3 xr
          exact q c d G2 H2 f2 ((Stp.less hfr).trans s2) k3 xr
        | ok kd e2 =>
          rw [z2] at q
          dsimp only [Out.bind] at q
          intro y G2 H2 f2 s2 k3 rk
          obtain ⟨f3, k4, s3⟩ := hold G2 H2 _ _ f2 s2 k3
          cases z3 : plainL xs with
          | none => rw [z3] at q; exact q.elim
          | some ds =>
            rw [z3] at q
            dsimp only at q
            by_cases hz : (keyK kd).isSome = true
            · rw [if_pos hz] at q
              obtain ⟨kk, hkk⟩ := Option.isSome_iff_exists.mp hz
              have ek := keyK_eq hkk
              subst ek
              have ey := rep_keyD rk
              subst ey
              obtain ⟨t0, tr, g0, g9, l1, l2, l3, l4⟩ := k4.sl
              cases l1
              obtain ⟨a2, us, g8, l5, l6, l7, l8⟩ := l3
              cases l5
              have ex := plainL_eq z3
              subst ex
              obtain ⟨rr, _⟩ := plainL_sls l8
              generalize ht : false = tt at l6
              cases l6 with
              | t kvs h => cases ht
              | k kvs h =>
                obtain ⟨g1, g2⟩ := get_gen (R := rc X) eqB_k kk rr
                obtain ⟨f5, k6, s6⟩ := k4.drop1
                refine ⟨_, DGet.k h, ?_⟩
                cases hg : getK (kvs.map fun p => keyD p.1) ds (keyD kk) with
                | none =>
                  rw [g2 hg]
                  rw [hg] at q
                  exact q _ G2 H2 f5 (s3.trans s6) k6 rfl
                | some dd =>
                  obtain ⟨w, hw1, hw2⟩ := g1 dd hg
                  rw [hw1]
                  rw [hg] at q
                  exact q _ G2 H2 f5 (s3.trans s6) k6 hw2
            · rw [if_neg hz] at q
              exact q.elim
    | _ => exact q.elim
/-- list(d), d one's own, given up: its keys -/
def keysM (Fz : M (List EV)) : M D := bnd Fz fun evs e => match evs with
  | [.od false ks _] => .ok (.lst ks) e
  | _ => .no
theorem de_listOd (hc : X.calm = true) (hg : Gl X x) (hm : X.mg x = none) (hv : bootBuiltins x = some (.type "list")) (ha : DOs X W [e] Fz) (hn : x ≠ "__name__" := by decide) (hdb : (x == ("__debug__" : Str)) = false := by decide)
    (he : starEach [e] X.env = (false, eval e X.env) :: starEach [] X.env := by rfl) (hpl : (backTo pos (starEach [] X.env)).any (·.1) = false := by rfl) : DE X W (.Call (.Name x p) [e] [] pos) (keysM Fz) := by
  refine PE.imp (pe_callTy (call_listD hc) hg hm hv ha hn hdb he hpl) fun σ H Q ⟨G, env, f, e, q⟩ => ?_
  refine ⟨G, env, f, e, ?_⟩
  have q : At (rc X) W (Rep (rc X)) ((Fz env).bind fun evs e => match evs with
    | [.od false ks _] => .ok (.lst ks) e
    | _ => .no) G H f σ Q := q
  cases z : Fz env with
  | no => rw [z] at q; exact q
  | ex y e1 => rw [z] at q; exact q
  | ok evs e1 =>
    rw [z] at q
    intro vs G' H' f' s k1 hl
    dsimp only [Out.bind] at q
    split at q
    · rename_i ks xs
      cases vs with
      | nil => cases hl
      | cons v r =>
        cases r with
        | cons _ _ => simp at hl
        | nil =>
          obtain ⟨s0, sr, f0, f9, h1, h2, h3, h4⟩ := k1.sl
          cases h1
          obtain ⟨a, us, f8, h5, h6, h7, h8⟩ := h3
          cases h5
          obtain ⟨f5, k6, s6⟩ := k1.drop1
          generalize ht : false = tt at h6
          cases h6 with
          | t kvs h => cases ht
          | k kvs h =>
            refine ⟨a, kvs, rfl, .inl h, fun l hl => ?_⟩
            have al : Alo G' H' (upd G' l (.lst (kvs.map fun kv => kV kv.1))) (upd H' l (.lst (kvs.map fun kv => kV kv.1))) := .new k6.sub hl
            refine q (.ref l) _ _ f5 ((s.trans s6).trans (al.stp f5)) (k6.alo al) ⟨l, _, rfl, upd_same, ?_⟩
            have rr : ∀ kvs : List (Key × V), Reps (rc X) (upd G' l (.lst ((kvs).map fun kv => kV kv.1))) (kvs.map fun p => keyD p.1) (kvs.map fun kv => kV kv.1) := fun kvs => by
              generalize upd G' l (.lst (kvs.map fun kv => kV kv.1)) = G2
              induction kvs with
              | nil => rfl
              | cons kv t ih => exact ⟨_, _, rfl, rep_kV kv.1, ih⟩
            exact rr kvs
    · exact q.elim
/-! ### sorted(xs), ints -/
def srtI (ns : List Int) : List Int := ns.mergeSort (fun a b => decide (a ≤ b))
theorem srtI_eq {ns ms : List Int} (h : ms.Perm ns) (s : ms.Pairwise (· ≤ ·)) : ms = srtI ns := by
  have p : (srtI ns).Perm ns := List.mergeSort_perm ns _
  have t : (srtI ns).Pairwise (· ≤ ·) := by
    have := List.pairwise_mergeSort (le := fun (a b : Int) => decide (a ≤ b)) (fun a b c h1 h2 => by simp only [decide_eq_true_eq] at h1 h2 ⊢; omega) (fun a b => by simp only [Bool.or_eq_true, decide_eq_true_eq]; omega) ns
    exact this.imp fun h => by simpa using h
  exact (h.trans p.symm).eq_of_pairwise (fun a b _ _ h1 h2 => Int.le_antisymm h1 h2) s t
def gSrt : List D → Option D
  | [.lst xs] => (toInts xs).map fun ns => .lst ((srtI ns).map .int)
  | _ => none
theorem cd_srt : CallD (rc X) (rSortedI X.K) gSrt := by
  intro G H vs ds d Q s r e q
  unfold gSrt at e
  split at e
  · obtain ⟨ns, h1, h2⟩ := Option.map_eq_some_iff.mp e
    subst h2
    obtain ⟨v, rfl, a, ws, rfl, t1, t2⟩ := r.one'
    have ew := reps_ints t2 h1
    subst ew
    refine ⟨a, ns, rfl, SqL.of (s _ _ t1), fun ms l hp hs hl => ?_⟩
    have em := srtI_eq hp hs
    subst em
    exact q _ _ _ (.new s hl) ⟨l, _, rfl, upd_same, Reps.map (f := .int) (g := .int) (fun i => (rfl : V.int i = V.int i)) _⟩
  · cases e
end
end DL

namespace DL
open PySem PySem.Spec PyProof.Rows L2
variable [LT]
/-! ### C(a, .., k = b, ..), an ordinary class -/
section
variable {X : Cx} {W : WX} {Pr : Nat → Bool} {k : Nat} {fI C : Addr} {fd : FuncData} {ps ks : List Str} {S : List EV → Out EV} {c : Str} {n : Nat} {g : List Value → List Value → List Value} {gV : List V → List V → List V} {gD : List D → List D → List D} {pos p p1 p2 apos cpos tpos : Pos} {a e : Expr} {es : List Expr} {kws : List Keyword} {Fs Fk : M (List D)} {Fa : M D} {i : Nat} {x f : Str}
def makeK (c : Str) (n m np : Nat) (S : List EV → Out EV) (gD : List D → List D → List D) (Fs Fk : M (List D)) : M EV := bnd Fs fun ds => bnd Fk fun es e => if ds.length = n ∧ es.length = m then makeF c np S [] (fun e => .ok ((gD ds es).map .d) e) e else .no
theorem run_makeGK {pins : List (Addr × Obj)} {σ : L2.St} {H : Hp} {s : Shared} {Q : VK} {E : XK} {us ws : List Value} {vs zs : List V} (M : Mk X.K C fI) (F : FnG X.prog X.w X.K X.mg X.base k fI fd ps S) (hg : X.A.guards = some []) (hr : Room (k + 1) X.A) (hb : KBd (rc X) fd ps (n + 1) ks g gV gD)
    (hx : PassesAt (CX X.prog X.w) X σ E) (I : Inv X pins σ H s) (r : Vals vs us) (rz : Vals zs ws) (l1 : vs.length = n) (l2 : zs.length = ks.length)
    (h : ∀ x dx, H x = none → H dx = none → dx ≠ x → spD (rc X) ps.length S (gV (.ref x :: vs) zs) (upd (upd H dx (.own x)) x (.ins C dx [])) (fun v H2 => v = .non ∧ Q (.ref x) H2) E) :
    wpAny (model X.prog X.w) X.A (call (.ref C) us (ks.zip ws)) (EP X pins σ Q) X.xe s := by
  have q := h (s.heap.objs.size + 1) s.heap.objs.size (I.hok.fresh (Nat.le_succ _)) (I.hok.fresh (Nat.le_refl _)) (Nat.ne_of_lt (Nat.lt_succ_self _))
  have J := Inv.made (C := C) I
  have r1 : Vals (V.ref (s.heap.objs.size + 1) :: vs) (Value.ref (s.heap.objs.size + 1) :: us) := .cons rfl r
  have e1 : (Value.ref (s.heap.objs.size + 1) :: us).length = n + 1 := r1.length.symm.trans (congrArg Nat.succ l1)
  have e2 : ws.length = ks.length := rz.length.symm.trans l2
  have go := F.run _ X.stack _ _ ⟨Value.ref (s.heap.objs.size + 1) :: us, ks.zip ws⟩ (g (Value.ref (s.heap.objs.size + 1) :: us) ws) _ _ E (show (X.A.under (.builtin "type.__call__" ⟨.ref C :: us, ks.zip ws⟩)).guards = some [] from hg) (hr.make C us (ks.zip ws))
    (J.env0.make C us (ks.zip ws)) (hb.to _ (Value.ref (s.heap.objs.size + 1) :: us) ws J.kIn e1 e2) (hb.rel r1 rz) q
  refine wpAny_call (make_map (f := fI) I.kIn M.makes M.init (beq_iff_eq.mp M.fn) (codeAny_mono go fun res s' hq => ?_))
  cases res with
  | error er => exact hx pins _ _ er s' J hq
  | ok fl =>
    cases fl with
    | ret u =>
      obtain ⟨v, H', J2, rv, ev, q2⟩ := J.after hq
      subst ev
      exact ⟨rv, ⟨V.ref (s.heap.objs.size + 1), H', J2, rfl, q2⟩⟩
    | next => exact hq.elim
    | brk => exact hq.elim
    | cont => exact hq.elim
theorem do_makeK {m np : Nat} (M : Mk X.K C fI) (F : FnG X.prog X.w X.K X.mg X.base k fI fd ps S) (hnp : ps.length = np) (hm' : ks.length = m) (hgd : X.A.guards = some []) (hr : Room (k + 1) X.A) (hg : Gl X c) (hm : X.mg c = some (.ref C)) (hb : KBd (rc X) fd ps (n + 1) ks g gV gD)
    (hcons : ∀ v vs zs, gV (v :: vs) zs = v :: gV vs zs) (hrep : ∀ {G : Hp} {ds es : List D} {vs zs : List V}, Reps (rc X) G ds vs → Reps (rc X) G es zs → Reps (rc X) G (gD ds es) (gV vs zs)) (hx : ∀ σ, PassesAt (CX X.prog X.w) X σ (WEat W σ)) (ha : DAs X W (e :: es) Fs) (hkw : DK X W kws Fk)
    (hall : (backToKw pos (keywordEach kws X.env)).all (·.1.isSome) = true := by rfl) (hks : (backToKw pos (keywordEach kws X.env)).filterMap (·.1) = ks := by rfl)
    (hdb : (c == ("__debug__" : Str)) = false := by decide) (he : starEach (e :: es) X.env = (false, eval e X.env) :: starEach es X.env := by rfl)
    (hpl : ((backTo pos (starEach (e :: es) X.env)).any (·.1) || (backToKw pos (keywordEach kws X.env)).any (·.1.isNone)) = false := by rfl) : DO X W (.Call (.Name c p) (e :: es) kws pos) (makeK c n m np S gD Fs Fk) := by
  subst hnp hm'
  constructor
  intro pins s σ H Q I h
  refine wpAny_Call_Name_kw (ld_glob I hg hm ?_ hdb)
  have h2 := tO_bind (P1 := Reps (rc X)) h fun G1 env1 f1 ds vs H1 e1 p1 q1 =>
    tO_then (P1 := Reps (rc X)) (Q' := fun zs H2 => vs.length = n ∧ zs.length = ks.length ∧ ∀ x dx, H2 x = none → H2 dx = none → dx ≠ x → spD (rc X) ps.length S (gV (.ref x :: vs) zs) (upd (upd H2 dx (.own x)) x (.ins C dx [])) (fun v H3 => v = .non ∧ Q (.ref x) H3) (WEat W σ)) e1 q1 fun G2 env2 f2 es zs H2 s2 e2 p2 q2 => by
      by_cases hc : ds.length = n ∧ es.length = ks.length
      · rw [if_pos hc] at q2
        have r := hrep (p1.mono s2) p2
        refine ⟨p1.length.symm.trans hc.1, p2.length.symm.trans hc.2, fun x dx z1 z2 z3 => ?_⟩
        rw [hcons]
        have mg := make_go (dvs := []) (dd := []) hm e2 (ArgsR.plain r) (fun _ => rfl) q2 z1 z2 z3
        rw [List.append_nil] at mg
        exact mg
      · rw [if_neg hc] at q2
        exact q2.elim
  refine PySem.W.callWith_KW (h₀ := X.base) I.ok.mod.kin M.kp hall (thn (ha.run pos pins s σ H _ I h2) ?_) hpl he
  rintro us s1 ⟨vs, H1, I1, r, q⟩
  refine thn (hkw.run pos pins s1 σ H1 _ I1 q) ?_
  rintro ws s2 ⟨zs, H2, I2, rz, l1, l2, q2⟩
  rw [hks]
  exact ⟨I2.kIn, run_makeGK M F hgd hr hb (hx σ) I2 r rz l1 l2 q2⟩
/-! ### x.f += e, x one's own instance, the field a number -/
def fldAug (cl : List Str) (i : Nat) (f : Str) (Fa : M D) : MS := fun e => match getI i e with
  | some (c, fn, ds) => if c ∈ cl then (match lookF fn ds f with
    | some (.int n) => bndS Fa (fun d e1 => match d, getI i e1 with
      | .int m, some (c', fn', ds') => if c' = c ∧ fn'.length < 1000 then .nx (e1.set i (.oi c' (putK f fn') ((putN f (.int (n + m)) fn' ds').map .v))) else .no
      | _, _ => .no) e
    | _ => .no) else .no
  | none => .no
theorem ds_fldaug {cl : List Str} (hcl : ∀ c ∈ cl, ∀ C, X.mg c = some (.ref C) → Cls X.K C ∧ NoAttr X.K C f) (hv : PE X (.Name x p) (tVar i)) (ha : DE X W a Fa) : DS X W Pr (.AugAssign (.Attribute (.Name x p) f tpos) .Add a pos) (fldAug cl i f Fa) := by
  refine PS.imp (ps_fldaug hv ha in_add) fun D σ H ⟨G, env, fp, e, q⟩ => ?_
  unfold fldAug at q
  cases z : getI i env with
  | none => rw [z] at q; exact q.elim
  | some t =>
    obtain ⟨c, fn, ds⟩ := t
    rw [z] at q
    dsimp only at q
    by_cases hc : c ∈ cl
    · rw [if_pos hc] at q
      obtain ⟨l, dx, C, fs, h1, h2, h3, h4, h5, h6, h7⟩ := inst_at e z
      subst h4
      obtain ⟨t1, t2⟩ := hcl c hc C h2
      cases y : lookF (fs.map (·.1)) ds f with
      | none => rw [y] at q; exact q.elim
      | some d0 =>
        rw [y] at q
        obtain ⟨v, hv, rv⟩ := lookF_ok h5 y
        cases d0 with
        | int nn =>
          dsimp only at q
          cases rv
          refine ⟨.ref l, h1, l, C, dx, fs, _, rfl, h3, t1, t2, hv, ?_⟩
          refine tS_bnd' (P := Rep (rc X)) e q fun G1 env1 f1 d v H1 e1 r1 q1 => ?_
          cases z1 : getI i env1 with
          | none => rw [z1] at q1; cases d <;> exact q1.elim
          | some t =>
            obtain ⟨c', fn', ds'⟩ := t
            rw [z1] at q1
            cases d with
            | int mm =>
              dsimp only at q1
              by_cases hz : c' = c ∧ fn'.length < 1000
              · rw [if_pos hz] at q1
                obtain ⟨hz1, hz2⟩ := hz
                subst hz1
                obtain ⟨l2, dx2, C2, fs2, k1, k2, k3, k4, k5, k6, k7⟩ := inst_at e1 z1
                rw [h1] at k1
                cases k1
                rw [h2] at k2
                cases k2
                subst k4
                cases r1
                obtain ⟨e2, s2⟩ := k7 (putF f (.int (nn + mm)) fs2) _ _ (putF_fst f _ fs2) (putF_reps f (d := .int (nn + mm)) rfl k5)
                exact ⟨nn, mm, rfl, rfl, dx2, fs2, k3, by simpa using hz2, q1 σ _ _ f1 s2 e2 (.refl σ)⟩
              · rw [if_neg hz] at q1
                exact q1.elim
            | _ => exact q1.elim
        | _ => exact q.elim
    · rw [if_neg hc] at q
      exact q.elim
/-! ### x.pop(j), x one's own list, what is struck is dropped -/
def popS (i : Nat) (Fa : M D) : MS := fun e => match getO i e with
  | none => .no
  | some _ => bndS Fa (fun d e1 => match d, getO i e1 with
    | .int z, some ds => if -(2 ^ 63) ≤ z ∧ z < 2 ^ 63 then (match seqIndex? z ds.length with
      | some j => if j < ds.length then .nx (putO i (ds.eraseIdx j) e1) else .no
      | none => .no) else .no
    | _, _ => .no) e
theorem Reps.eraseIdx {R : RC} {G : Hp} : ∀ {xs : List D} {vs : List V} (j : Nat), Reps R G xs vs → Reps R G (xs.eraseIdx j) (vs.eraseIdx j)
  | [], vs, j, h => by
    have e : vs = [] := h
    subst e
    exact h
  | x :: xs, vs, 0, h => by
    obtain ⟨u, w, h1, h2, h3⟩ := h
    subst h1
    exact h3
  | x :: xs, vs, j + 1, h => by
    obtain ⟨u, w, h1, h2, h3⟩ := h
    subst h1
    exact ⟨u, w.eraseIdx j, rfl, h2, Reps.eraseIdx j h3⟩
theorem ds_pop (hv : PE X (.Name x p) (tVar i)) (ha : DE X W a Fa) (hs : starEach [a] X.env = (false, eval a X.env) :: starEach [] X.env := by rfl) (hbase : attributeBase (.Name x p) "pop" X.env (eval (.Name x p) X.env) = eval (.Name x p) X.env := by rfl)
    (hfew : ((backTo cpos (starEach [a] X.env)).all (fun x => !x.1) && (backToKw cpos (keywordEach [] X.env)).all (fun x => x.1.isSome)
      && decide ([a].length + ([] : List Keyword).length + (if ([] : List Keyword).isEmpty then 0 else 1) < 30)) = true := by rfl)
    (hline : (apos.endLine == cpos.line) = true := by rfl) (hplain : (backTo cpos (starEach [] X.env)).any (·.1) = false := by rfl) (hsw : swapsWith (.Call (.Attribute (.Name x p) "pop" apos) [a] [] cpos) none pos.line X.env = pure false := by rfl) :
    DS X W Pr (.Expr (.Call (.Attribute (.Name x p) "pop" apos) [a] [] cpos) pos) (popS i Fa) := by
  have pe := pe_bm PySem.F.plainAttrs_list PySem.F.slot_list_pop PySem.F.type_list_pop mt_popAt (cpos := cpos) (apos := apos) hv (pa_cons ha pa_nil hs) hbase hfew hline hs hplain
  refine PS.imp (ps_expr pe hsw) fun D σ H ⟨G, env, f, e, q⟩ => ?_
  unfold popS at q
  cases z : getO i env with
  | none => rw [z] at q; exact q.elim
  | some ds0 =>
    rw [z] at q
    obtain ⟨l, vs, h1, h2, h3, h4, _⟩ := own_at e z
    refine ⟨.ref l, h1, .inl ⟨rfl, vs, SqL.of h2⟩, ?_⟩
    refine tS_bnd' (P := Rep (rc X)) e q fun G1 env1 f1 d v H1 e1 r1 q1 => ?_
    cases z1 : getO i env1 with
    | none => simp only [z1] at q1; cases d <;> exact q1.elim
    | some ds =>
      simp only [z1] at q1
      cases d with
      | int zz =>
        dsimp only at q1
        obtain ⟨l2, us, k1, k2, k3, k4, k5⟩ := own_at e1 z1
        rw [h1] at k1
        cases k1
        cases r1
        by_cases hz : -(2 ^ 63) ≤ zz ∧ zz < 2 ^ 63
        · rw [if_pos hz] at q1
          cases hj : seqIndex? zz ds.length with
          | none => rw [hj] at q1; exact q1.elim
          | some j =>
            rw [hj] at q1
            dsimp only at q1
            by_cases hl : j < ds.length
            · rw [if_pos hl] at q1
              obtain ⟨e2, s2⟩ := k5 (ds.eraseIdx j) (us.eraseIdx j) (k3.eraseIdx j)
              have hl2 : j < us.length := by rw [← k3.length]; exact hl
              exact ⟨l, us, zz, j, us[j], rfl, rfl, k2, hz.1, hz.2, by rw [← k3.length]; exact hj, List.getElem?_eq_getElem hl2, q1 σ _ _ f1 s2 e2 (.refl σ)⟩
            · rw [if_neg hl] at q1
              exact q1.elim
        · rw [if_neg hz] at q1
          exact q1.elim
      | _ => exact q1.elim
end
end DL

namespace DL
open PySem PySem.Spec PyProof.Rows L2 LamX
theorem u65 {k : Nat} {A : Around} (r : Room k A) : A.units + 1 < cLine := by
  have := r.un
  omega
section
variable {c : HK} {K : PySem.W.Frag} {mg : Str → Option Value} {base : Heap}
/-- a default that is () -/
theorem Cfx.etup (C : Cfx c K mg base) {f : Str × Option Str} {i : Nat} (h : Ck.etup f i ∈ c.ck) {T : List (Addr × Str)} (G : Hp) : Rep ⟨K, mg, T⟩ G (.tup []) (.ref (He.dflAt f i K)) := by
  have q := C.ckx h
  unfold Ck.ok at q
  dsimp only at q
  refine ⟨_, [], rfl, .inr ?_, rfl⟩
  cases z : K.lookup (He.dflAt f i K) with
  | none => rw [z] at q; cases q
  | some o =>
    obtain ⟨oc, od, dt, sl⟩ := o
    rw [z] at q
    cases oc with
    | type t =>
      cases od with
      | some a => cases dt <;> cases q
      | none =>
        cases dt with
        | seq its n =>
          dsimp only at q
          obtain ⟨q1, q2⟩ := Bool.and_eq_true_iff.mp q
          have e1 := of_decide_eq_true q1
          have e2 : its = #[] := Array.eq_empty_of_size_eq_zero (of_decide_eq_true q2)
          subst e1 e2
          exact ⟨[], n, sl, rfl, Nat.zero_le _, .nil⟩
        | _ => cases q
    | _ => cases od <;> cases dt <;> cases q
/-- a class's own method -/
theorem Cfx.mets (C : Cfx c K mg base) {x m : Str} (g : He.Fa.glo x ∈ c.fa) (k : He.Fa.cls x ∈ c.fa) (q : He.Fa.meth x m ∈ c.fa) : ∀ y ∈ [x], ∀ D, mg y = some (.ref D) → Cls K D ∧ Meth K D m (He.fAd K (x, some m)) := by
  intro y hy D hD
  cases List.mem_singleton.mp hy
  rw [C.glo g] at hD
  cases hD
  exact ⟨He.cls_ok (C.fact k), He.meth_ok (C.fact q)⟩
end
end DL

namespace K32
open PySem PySem.Spec PyProof.Rows L2 LamX DL

def top (i : Nat) : Stmt := PySem.Challenge.pw_agedcopy_k32_whole_a_store_with_a_note_a.main.body.getD i (.Pass ⟨0, 0, 0, 0⟩)
def clsAt (s : Stmt) (i : Nat) : Stmt := match s with
  | .ClassDef _ _ _ b _ _ _ _ _ _ _ => b.getD i (.Pass ⟨0, 0, 0, 0⟩)
  | _ => .Pass ⟨0, 0, 0, 0⟩
abbrev s__law_box : Stmt := top 31
abbrev dd__law_box : He.DefD := ⟨("_law_box", none), "_law_box", "_law_box", defArgs s__law_box, defBody s__law_box, defScope s__law_box, [], []⟩
abbrev s__law_take : Stmt := top 32
abbrev dd__law_take : He.DefD := ⟨("_law_take", none), "_law_take", "_law_take", defArgs s__law_take, defBody s__law_take, defScope s__law_take, [], []⟩
abbrev s__law_pick : Stmt := top 33
abbrev dd__law_pick : He.DefD := ⟨("_law_pick", none), "_law_pick", "_law_pick", defArgs s__law_pick, defBody s__law_pick, defScope s__law_pick, [], []⟩
abbrev s__law_tables : Stmt := top 34
abbrev dd__law_tables : He.DefD := ⟨("_law_tables", none), "_law_tables", "_law_tables", defArgs s__law_tables, defBody s__law_tables, defScope s__law_tables, [], []⟩
abbrev s_is_integer : Stmt := top 12
abbrev dd_is_integer : He.DefD := ⟨("is_integer", none), "is_integer", "is_integer", defArgs s_is_integer, defBody s_is_integer, defScope s_is_integer, [], []⟩
abbrev s_is_number : Stmt := top 13
abbrev dd_is_number : He.DefD := ⟨("is_number", none), "is_number", "is_number", defArgs s_is_number, defBody s_is_number, defScope s_is_number, [], []⟩
abbrev s_is_below : Stmt := top 14
abbrev dd_is_below : He.DefD := ⟨("is_below", none), "is_below", "is_below", defArgs s_is_below, defBody s_is_below, defScope s_is_below, [], []⟩
abbrev s_need_deed : Stmt := top 22
abbrev dd_need_deed : He.DefD := ⟨("need_deed", none), "need_deed", "need_deed", defArgs s_need_deed, defBody s_need_deed, defScope s_need_deed, [], []⟩
abbrev s_moved_paths : Stmt := top 27
abbrev dd_moved_paths : He.DefD := ⟨("moved_paths", none), "moved_paths", "moved_paths", defArgs s_moved_paths, defBody s_moved_paths, defScope s_moved_paths, [], []⟩
abbrev s_with_return : Stmt := top 28
abbrev dd_with_return : He.DefD := ⟨("with_return", none), "with_return", "with_return", defArgs s_with_return, defBody s_with_return, defScope s_with_return, [], []⟩
abbrev s_LogNote_put : Stmt := clsAt (top 29) 2
abbrev dd_LogNote_put : He.DefD := ⟨("LogNote", some "put"), "put", "LogNote.put", defArgs s_LogNote_put, defBody s_LogNote_put, defScope s_LogNote_put, [], []⟩
abbrev s__law_starts : Stmt := top 36
abbrev dd__law_starts : He.DefD := ⟨("_law_starts", none), "_law_starts", "_law_starts", defArgs s__law_starts, defBody s__law_starts, defScope s__law_starts, [], []⟩
abbrev s_is_sequence : Stmt := top 15
abbrev dd_is_sequence : He.DefD := ⟨("is_sequence", none), "is_sequence", "is_sequence", defArgs s_is_sequence, defBody s_is_sequence, defScope s_is_sequence, [], []⟩
abbrev s_is_ascending : Stmt := top 16
abbrev dd_is_ascending : He.DefD := ⟨("is_ascending", none), "is_ascending", "is_ascending", defArgs s_is_ascending, defBody s_is_ascending, defScope s_is_ascending, [], []⟩
abbrev s_check_starts : Stmt := top 24
abbrev dd_check_starts : He.DefD := ⟨("check_starts", none), "check_starts", "check_starts", defArgs s_check_starts, defBody s_check_starts, defScope s_check_starts, [], []⟩
abbrev s_LogNote___init__ : Stmt := clsAt (top 29) 0
abbrev dd_LogNote___init__ : He.DefD := ⟨("LogNote", some "__init__"), "__init__", "LogNote.__init__", defArgs s_LogNote___init__, defBody s_LogNote___init__, defScope s_LogNote___init__, [], [("starts", He.Dv.non)]⟩
abbrev s__law_led : Stmt := top 35
abbrev dd__law_led : He.DefD := ⟨("_law_led", none), "_law_led", "_law_led", defArgs s__law_led, defBody s__law_led, defScope s__law_led, [], []⟩
abbrev s_is_table : Stmt := top 18
abbrev dd_is_table : He.DefD := ⟨("is_table", none), "is_table", "is_table", defArgs s_is_table, defBody s_is_table, defScope s_is_table, [], []⟩
abbrev s_check_tables : Stmt := top 19
abbrev dd_check_tables : He.DefD := ⟨("check_tables", none), "check_tables", "check_tables", defArgs s_check_tables, defBody s_check_tables, defScope s_check_tables, [], []⟩
abbrev s_Machine___init__ : Stmt := clsAt (top 20) 0
abbrev dd_Machine___init__ : He.DefD := ⟨("Machine", some "__init__"), "__init__", "Machine.__init__", defArgs s_Machine___init__, defBody s_Machine___init__, defScope s_Machine___init__, [], []⟩
abbrev s_need_state : Stmt := top 21
abbrev dd_need_state : He.DefD := ⟨("need_state", none), "need_state", "need_state", defArgs s_need_state, defBody s_need_state, defScope s_need_state, [], []⟩
abbrev s_behind : Stmt := top 25
abbrev dd_behind : He.DefD := ⟨("behind", none), "behind", "behind", defArgs s_behind, defBody s_behind, defScope s_behind, [], []⟩
abbrev s_check_log : Stmt := top 23
abbrev dd_check_log : He.DefD := ⟨("check_log", none), "check_log", "check_log", defArgs s_check_log, defBody s_check_log, defScope s_check_log, [], []⟩
abbrev s_LogNote_read : Stmt := clsAt (top 29) 4
abbrev dd_LogNote_read : He.DefD := ⟨("LogNote", some "read"), "read", "LogNote.read", defArgs s_LogNote_read, defBody s_LogNote_read, defScope s_LogNote_read, [(.adr (He.dflAt ("LogNote", some "read") 0))], []⟩
abbrev s__law_copies_right : Stmt := top 37
abbrev dd__law_copies_right : He.DefD := ⟨("_law_copies_right", none), "_law_copies_right", "_law_copies_right", defArgs s__law_copies_right, defBody s__law_copies_right, defScope s__law_copies_right, [], []⟩
abbrev s_LogNote_mark : Stmt := clsAt (top 29) 3
abbrev dd_LogNote_mark : He.DefD := ⟨("LogNote", some "mark"), "mark", "LogNote.mark", defArgs s_LogNote_mark, defBody s_LogNote_mark, defScope s_LogNote_mark, [], []⟩
abbrev s_law : Stmt := top 38
abbrev dd_law : He.DefD := ⟨("law", none), "law", "law", defArgs s_law, defBody s_law, defScope s_law, [], []⟩
def fa0 : List He.Fa := [.glo "BadCopy", .glo "BadLog", .glo "BadMachine", .glo "LogNote", .glo "Machine", .glo "NoDeed", .glo "NoState", .glo "Refused", .glo "_law_box", .glo "_law_copies_right", .glo "_law_led", .glo "_law_pick", .glo "_law_starts", .glo "_law_tables", .glo "_law_take", .glo "behind", .glo "check_log", .glo "check_starts", .glo "check_tables", .glo "is_ascending"]
def fa1 : List He.Fa := [.glo "is_below", .glo "is_integer", .glo "is_number", .glo "is_sequence", .glo "is_table", .glo "law", .glo "moved_paths", .glo "need_deed", .glo "need_state", .glo "with_return", .free "abs", .free "all", .free "bool", .free "dict", .free "enumerate", .free "int", .free "isinstance", .free "len", .free "list", .free "max"]
def fa2 : List He.Fa := [.free "min", .free "range", .free "sorted", .free "super", .free "tuple", .free "zip", .int "MOST_DEEDS" 8, .int "MOST_LOG" 10000, .int "MOST_STATES" 12, .cls "LogNote", .cls "Machine", .noat "LogNote" "age", .noat "LogNote" "deeds", .noat "LogNote" "machine", .noat "LogNote" "possible", .noat "LogNote" "rows", .noat "LogNote" "states", .noat "LogNote" "tables", .noat "Machine" "age", .noat "Machine" "deeds"]
def fa3 : List He.Fa := [.noat "Machine" "machine", .noat "Machine" "possible", .noat "Machine" "rows", .noat "Machine" "states", .noat "Machine" "tables", .mkr "LogNote", .mkr "Machine", .meth "LogNote" "mark", .meth "LogNote" "put", .meth "LogNote" "read"]
def fa : List He.Fa := fa0 ++ (fa1 ++ (fa2 ++ (fa3)))
def fn0 : List He.DefD := [dd__law_box, dd__law_take, dd__law_pick, dd__law_tables, dd_is_integer, dd_is_number, dd_is_below, dd_need_deed, dd_moved_paths, dd_with_return, dd_LogNote_put, dd__law_starts, dd_is_sequence, dd_is_ascending, dd_check_starts, dd_LogNote___init__, dd__law_led, dd_is_table, dd_check_tables, dd_Machine___init__]
def fn1 : List He.DefD := [dd_need_state, dd_behind, dd_check_log, dd_LogNote_read, dd__law_copies_right, dd_LogNote_mark, dd_law]
def fn : List He.DefD := fn0 ++ (fn1)
def ck0 : List Ck := [.etup ("LogNote", some "read") 0]
def ck : List Ck := ck0
abbrev xd_BadCopy : XD := ⟨"BadCopy", "at", false, clsAt (top 4) 0⟩
abbrev xd_BadLog : XD := ⟨"BadLog", "at", false, clsAt (top 3) 0⟩
abbrev xd_BadMachine : XD := ⟨"BadMachine", "at", false, clsAt (top 2) 0⟩
abbrev xd_NoDeed : XD := ⟨"NoDeed", "deed", true, clsAt (top 7) 0⟩
abbrev xd_NoState : XD := ⟨"NoState", "state", true, clsAt (top 6) 0⟩
abbrev xd_Refused : XD := ⟨"Refused", "at", false, clsAt (top 5) 0⟩
def xs : List XD := [xd_BadCopy, xd_BadLog, xd_BadMachine, xd_NoDeed, xd_NoState, xd_Refused]
def tf : List (He.Defn × Str) := []
def cfg : HK := ⟨PySem.Challenge.pw_agedcopy_k32_whole_a_store_with_a_note_a, fa, fn, xs, ck, tf⟩
instance : LT := cfg.lt
abbrev Pn : Nat → Bool := fun _ => false
theorem xsh_BadCopy : xd_BadCopy.Shape cfg.prog := ⟨rfl, ⟨_, _, _, _, _, _, _, _, _, _, _, _, _, _, rfl, ⟨_, rfl, rfl⟩, fun s u v _ _ _ _ _ _ _ => .of_eq rfl, fun s u v _ _ _ _ _ _ _ => .of_eq rfl, rfl, rfl, rfl, rfl, rfl, rfl, by decide, by decide, by decide, by decide +kernel, rfl, rfl, rfl⟩⟩
theorem xsh_BadLog : xd_BadLog.Shape cfg.prog := ⟨rfl, ⟨_, _, _, _, _, _, _, _, _, _, _, _, _, _, rfl, ⟨_, rfl, rfl⟩, fun s u v _ _ _ _ _ _ _ => .of_eq rfl, fun s u v _ _ _ _ _ _ _ => .of_eq rfl, rfl, rfl, rfl, rfl, rfl, rfl, by decide, by decide, by decide, by decide +kernel, rfl, rfl, rfl⟩⟩
theorem xsh_BadMachine : xd_BadMachine.Shape cfg.prog := ⟨rfl, ⟨_, _, _, _, _, _, _, _, _, _, _, _, _, _, rfl, ⟨_, rfl, rfl⟩, fun s u v _ _ _ _ _ _ _ => .of_eq rfl, fun s u v _ _ _ _ _ _ _ => .of_eq rfl, rfl, rfl, rfl, rfl, rfl, rfl, by decide, by decide, by decide, by decide +kernel, rfl, rfl, rfl⟩⟩
theorem xsh_NoDeed : xd_NoDeed.Shape cfg.prog := ⟨rfl, ⟨_, _, _, _, _, _, _, _, _, _, _, _, _, _, rfl, ⟨_, rfl, rfl⟩, fun s u v _ _ _ _ _ _ _ => .of_eq rfl, fun s u v _ _ _ _ _ _ _ => .of_eq rfl, rfl, rfl, rfl, rfl, rfl, rfl, by decide, by decide, by decide, by decide +kernel, rfl, rfl, rfl⟩⟩
theorem xsh_NoState : xd_NoState.Shape cfg.prog := ⟨rfl, ⟨_, _, _, _, _, _, _, _, _, _, _, _, _, _, rfl, ⟨_, rfl, rfl⟩, fun s u v _ _ _ _ _ _ _ => .of_eq rfl, fun s u v _ _ _ _ _ _ _ => .of_eq rfl, rfl, rfl, rfl, rfl, rfl, rfl, by decide, by decide, by decide, by decide +kernel, rfl, rfl, rfl⟩⟩
theorem xsh_Refused : xd_Refused.Shape cfg.prog := ⟨rfl, ⟨_, _, _, _, _, _, _, _, _, _, _, _, _, _, rfl, ⟨_, rfl, rfl⟩, fun s u v _ _ _ _ _ _ _ => .of_eq rfl, fun s u v _ _ _ _ _ _ _ => .of_eq rfl, rfl, rfl, rfl, rfl, rfl, rfl, by decide, by decide, by decide, by decide +kernel, rfl, rfl, rfl⟩⟩
section
variable {w : World} {K : PySem.W.Frag} {mg : Str → Option Value} {base : Heap}
theorem m_BadCopy (C : Cfx cfg K mg base) : mg "BadCopy" = some (.ref (He.ga K "BadCopy")) := C.glo (List.mem_of_getElem? (i := 0) rfl)
theorem m_BadLog (C : Cfx cfg K mg base) : mg "BadLog" = some (.ref (He.ga K "BadLog")) := C.glo (List.mem_of_getElem? (i := 1) rfl)
theorem m_BadMachine (C : Cfx cfg K mg base) : mg "BadMachine" = some (.ref (He.ga K "BadMachine")) := C.glo (List.mem_of_getElem? (i := 2) rfl)
theorem m_LogNote (C : Cfx cfg K mg base) : mg "LogNote" = some (.ref (He.ga K "LogNote")) := C.glo (List.mem_of_getElem? (i := 3) rfl)
theorem m_Machine (C : Cfx cfg K mg base) : mg "Machine" = some (.ref (He.ga K "Machine")) := C.glo (List.mem_of_getElem? (i := 4) rfl)
theorem m_NoDeed (C : Cfx cfg K mg base) : mg "NoDeed" = some (.ref (He.ga K "NoDeed")) := C.glo (List.mem_of_getElem? (i := 5) rfl)
theorem m_NoState (C : Cfx cfg K mg base) : mg "NoState" = some (.ref (He.ga K "NoState")) := C.glo (List.mem_of_getElem? (i := 6) rfl)
theorem m_Refused (C : Cfx cfg K mg base) : mg "Refused" = some (.ref (He.ga K "Refused")) := C.glo (List.mem_of_getElem? (i := 7) rfl)
theorem m__law_box (C : Cfx cfg K mg base) : mg "_law_box" = some (.ref (He.ga K "_law_box")) := C.glo (List.mem_of_getElem? (i := 8) rfl)
theorem m__law_copies_right (C : Cfx cfg K mg base) : mg "_law_copies_right" = some (.ref (He.ga K "_law_copies_right")) := C.glo (List.mem_of_getElem? (i := 9) rfl)
theorem m__law_led (C : Cfx cfg K mg base) : mg "_law_led" = some (.ref (He.ga K "_law_led")) := C.glo (List.mem_of_getElem? (i := 10) rfl)
theorem m__law_pick (C : Cfx cfg K mg base) : mg "_law_pick" = some (.ref (He.ga K "_law_pick")) := C.glo (List.mem_of_getElem? (i := 11) rfl)
theorem m__law_starts (C : Cfx cfg K mg base) : mg "_law_starts" = some (.ref (He.ga K "_law_starts")) := C.glo (List.mem_of_getElem? (i := 12) rfl)
theorem m__law_tables (C : Cfx cfg K mg base) : mg "_law_tables" = some (.ref (He.ga K "_law_tables")) := C.glo (List.mem_of_getElem? (i := 13) rfl)
theorem m__law_take (C : Cfx cfg K mg base) : mg "_law_take" = some (.ref (He.ga K "_law_take")) := C.glo (List.mem_of_getElem? (i := 14) rfl)
theorem m_behind (C : Cfx cfg K mg base) : mg "behind" = some (.ref (He.ga K "behind")) := C.glo (List.mem_of_getElem? (i := 15) rfl)
theorem m_check_log (C : Cfx cfg K mg base) : mg "check_log" = some (.ref (He.ga K "check_log")) := C.glo (List.mem_of_getElem? (i := 16) rfl)
theorem m_check_starts (C : Cfx cfg K mg base) : mg "check_starts" = some (.ref (He.ga K "check_starts")) := C.glo (List.mem_of_getElem? (i := 17) rfl)
theorem m_check_tables (C : Cfx cfg K mg base) : mg "check_tables" = some (.ref (He.ga K "check_tables")) := C.glo (List.mem_of_getElem? (i := 18) rfl)
theorem m_is_ascending (C : Cfx cfg K mg base) : mg "is_ascending" = some (.ref (He.ga K "is_ascending")) := C.glo (List.mem_of_getElem? (i := 19) rfl)
theorem m_is_below (C : Cfx cfg K mg base) : mg "is_below" = some (.ref (He.ga K "is_below")) := C.glo (List.mem_of_getElem? (i := 20) rfl)
theorem m_is_integer (C : Cfx cfg K mg base) : mg "is_integer" = some (.ref (He.ga K "is_integer")) := C.glo (List.mem_of_getElem? (i := 21) rfl)
theorem m_is_number (C : Cfx cfg K mg base) : mg "is_number" = some (.ref (He.ga K "is_number")) := C.glo (List.mem_of_getElem? (i := 22) rfl)
theorem m_is_sequence (C : Cfx cfg K mg base) : mg "is_sequence" = some (.ref (He.ga K "is_sequence")) := C.glo (List.mem_of_getElem? (i := 23) rfl)
theorem m_is_table (C : Cfx cfg K mg base) : mg "is_table" = some (.ref (He.ga K "is_table")) := C.glo (List.mem_of_getElem? (i := 24) rfl)
theorem m_law (C : Cfx cfg K mg base) : mg "law" = some (.ref (He.ga K "law")) := C.glo (List.mem_of_getElem? (i := 25) rfl)
theorem m_moved_paths (C : Cfx cfg K mg base) : mg "moved_paths" = some (.ref (He.ga K "moved_paths")) := C.glo (List.mem_of_getElem? (i := 26) rfl)
theorem m_need_deed (C : Cfx cfg K mg base) : mg "need_deed" = some (.ref (He.ga K "need_deed")) := C.glo (List.mem_of_getElem? (i := 27) rfl)
theorem m_need_state (C : Cfx cfg K mg base) : mg "need_state" = some (.ref (He.ga K "need_state")) := C.glo (List.mem_of_getElem? (i := 28) rfl)
theorem m_with_return (C : Cfx cfg K mg base) : mg "with_return" = some (.ref (He.ga K "with_return")) := C.glo (List.mem_of_getElem? (i := 29) rfl)
theorem m_abs (C : Cfx cfg K mg base) : mg "abs" = none := C.free (List.mem_of_getElem? (i := 30) rfl)
theorem m_all (C : Cfx cfg K mg base) : mg "all" = none := C.free (List.mem_of_getElem? (i := 31) rfl)
theorem m_bool (C : Cfx cfg K mg base) : mg "bool" = none := C.free (List.mem_of_getElem? (i := 32) rfl)
theorem m_dict (C : Cfx cfg K mg base) : mg "dict" = none := C.free (List.mem_of_getElem? (i := 33) rfl)
theorem m_enumerate (C : Cfx cfg K mg base) : mg "enumerate" = none := C.free (List.mem_of_getElem? (i := 34) rfl)
theorem m_int (C : Cfx cfg K mg base) : mg "int" = none := C.free (List.mem_of_getElem? (i := 35) rfl)
theorem m_isinstance (C : Cfx cfg K mg base) : mg "isinstance" = none := C.free (List.mem_of_getElem? (i := 36) rfl)
theorem m_len (C : Cfx cfg K mg base) : mg "len" = none := C.free (List.mem_of_getElem? (i := 37) rfl)
theorem m_list (C : Cfx cfg K mg base) : mg "list" = none := C.free (List.mem_of_getElem? (i := 38) rfl)
theorem m_max (C : Cfx cfg K mg base) : mg "max" = none := C.free (List.mem_of_getElem? (i := 39) rfl)
theorem m_min (C : Cfx cfg K mg base) : mg "min" = none := C.free (List.mem_of_getElem? (i := 40) rfl)
theorem m_range (C : Cfx cfg K mg base) : mg "range" = none := C.free (List.mem_of_getElem? (i := 41) rfl)
theorem m_sorted (C : Cfx cfg K mg base) : mg "sorted" = none := C.free (List.mem_of_getElem? (i := 42) rfl)
theorem m_super (C : Cfx cfg K mg base) : mg "super" = none := C.free (List.mem_of_getElem? (i := 43) rfl)
theorem m_tuple (C : Cfx cfg K mg base) : mg "tuple" = none := C.free (List.mem_of_getElem? (i := 44) rfl)
theorem m_zip (C : Cfx cfg K mg base) : mg "zip" = none := C.free (List.mem_of_getElem? (i := 45) rfl)
theorem m_MOST_DEEDS (C : Cfx cfg K mg base) : ∃ t, mg "MOST_DEEDS" = some (.int 8 t) := C.int (List.mem_of_getElem? (i := 46) rfl)
theorem m_MOST_LOG (C : Cfx cfg K mg base) : ∃ t, mg "MOST_LOG" = some (.int 10000 t) := C.int (List.mem_of_getElem? (i := 47) rfl)
theorem m_MOST_STATES (C : Cfx cfg K mg base) : ∃ t, mg "MOST_STATES" = some (.int 12 t) := C.int (List.mem_of_getElem? (i := 48) rfl)
theorem mk_LogNote (C : Cfx cfg K mg base) : Mk K (He.ga K "LogNote") (He.fAd K ("LogNote", some "__init__")) := He.mkr_ok (C.fact (List.mem_of_getElem? (i := 65) rfl))
theorem mk_Machine (C : Cfx cfg K mg base) : Mk K (He.ga K "Machine") (He.fAd K ("Machine", some "__init__")) := He.mkr_ok (C.fact (List.mem_of_getElem? (i := 66) rfl))
theorem x_BadCopy (C : Cfx cfg K mg base) : ExI cfg.prog K (He.ga K "BadCopy") "at" := C.exI (x := xd_BadCopy) (List.mem_of_getElem? (i := 0) rfl) xsh_BadCopy
theorem x_BadLog (C : Cfx cfg K mg base) : ExI cfg.prog K (He.ga K "BadLog") "at" := C.exI (x := xd_BadLog) (List.mem_of_getElem? (i := 1) rfl) xsh_BadLog
theorem x_BadMachine (C : Cfx cfg K mg base) : ExI cfg.prog K (He.ga K "BadMachine") "at" := C.exI (x := xd_BadMachine) (List.mem_of_getElem? (i := 2) rfl) xsh_BadMachine
theorem x_NoDeed (C : Cfx cfg K mg base) : ExI cfg.prog K (He.ga K "NoDeed") "deed" := C.exI (x := xd_NoDeed) (List.mem_of_getElem? (i := 3) rfl) xsh_NoDeed
theorem x_NoState (C : Cfx cfg K mg base) : ExI cfg.prog K (He.ga K "NoState") "state" := C.exI (x := xd_NoState) (List.mem_of_getElem? (i := 4) rfl) xsh_NoState
theorem x_Refused (C : Cfx cfg K mg base) : ExI cfg.prog K (He.ga K "Refused") "at" := C.exI (x := xd_Refused) (List.mem_of_getElem? (i := 5) rfl) xsh_Refused
def ocl : List Str := ["LogNote", "Machine"]
theorem ocl_age_ok : ∀ x ∈ ocl, He.Fa.glo x ∈ cfg.fa ∧ He.Fa.cls x ∈ cfg.fa ∧ He.Fa.noat x "age" ∈ cfg.fa := by
  intro x hx
  simp only [ocl, List.mem_cons, List.mem_singleton, List.not_mem_nil, or_false] at hx
  rcases hx with hx | hx
  · subst hx
    exact ⟨(List.mem_of_getElem? (i := 3) rfl), (List.mem_of_getElem? (i := 49) rfl), (List.mem_of_getElem? (i := 51) rfl)⟩
  · subst hx
    exact ⟨(List.mem_of_getElem? (i := 4) rfl), (List.mem_of_getElem? (i := 50) rfl), (List.mem_of_getElem? (i := 58) rfl)⟩
theorem ocl_deeds_ok : ∀ x ∈ ocl, He.Fa.glo x ∈ cfg.fa ∧ He.Fa.cls x ∈ cfg.fa ∧ He.Fa.noat x "deeds" ∈ cfg.fa := by
  intro x hx
  simp only [ocl, List.mem_cons, List.mem_singleton, List.not_mem_nil, or_false] at hx
  rcases hx with hx | hx
  · subst hx
    exact ⟨(List.mem_of_getElem? (i := 3) rfl), (List.mem_of_getElem? (i := 49) rfl), (List.mem_of_getElem? (i := 52) rfl)⟩
  · subst hx
    exact ⟨(List.mem_of_getElem? (i := 4) rfl), (List.mem_of_getElem? (i := 50) rfl), (List.mem_of_getElem? (i := 59) rfl)⟩
theorem ocl_machine_ok : ∀ x ∈ ocl, He.Fa.glo x ∈ cfg.fa ∧ He.Fa.cls x ∈ cfg.fa ∧ He.Fa.noat x "machine" ∈ cfg.fa := by
  intro x hx
  simp only [ocl, List.mem_cons, List.mem_singleton, List.not_mem_nil, or_false] at hx
  rcases hx with hx | hx
  · subst hx
    exact ⟨(List.mem_of_getElem? (i := 3) rfl), (List.mem_of_getElem? (i := 49) rfl), (List.mem_of_getElem? (i := 53) rfl)⟩
  · subst hx
    exact ⟨(List.mem_of_getElem? (i := 4) rfl), (List.mem_of_getElem? (i := 50) rfl), (List.mem_of_getElem? (i := 60) rfl)⟩
theorem ocl_possible_ok : ∀ x ∈ ocl, He.Fa.glo x ∈ cfg.fa ∧ He.Fa.cls x ∈ cfg.fa ∧ He.Fa.noat x "possible" ∈ cfg.fa := by
  intro x hx
  simp only [ocl, List.mem_cons, List.mem_singleton, List.not_mem_nil, or_false] at hx
  rcases hx with hx | hx
  · subst hx
    exact ⟨(List.mem_of_getElem? (i := 3) rfl), (List.mem_of_getElem? (i := 49) rfl), (List.mem_of_getElem? (i := 54) rfl)⟩
  · subst hx
    exact ⟨(List.mem_of_getElem? (i := 4) rfl), (List.mem_of_getElem? (i := 50) rfl), (List.mem_of_getElem? (i := 61) rfl)⟩
theorem ocl_rows_ok : ∀ x ∈ ocl, He.Fa.glo x ∈ cfg.fa ∧ He.Fa.cls x ∈ cfg.fa ∧ He.Fa.noat x "rows" ∈ cfg.fa := by
  intro x hx
  simp only [ocl, List.mem_cons, List.mem_singleton, List.not_mem_nil, or_false] at hx
  rcases hx with hx | hx
  · subst hx
    exact ⟨(List.mem_of_getElem? (i := 3) rfl), (List.mem_of_getElem? (i := 49) rfl), (List.mem_of_getElem? (i := 55) rfl)⟩
  · subst hx
    exact ⟨(List.mem_of_getElem? (i := 4) rfl), (List.mem_of_getElem? (i := 50) rfl), (List.mem_of_getElem? (i := 62) rfl)⟩
theorem ocl_states_ok : ∀ x ∈ ocl, He.Fa.glo x ∈ cfg.fa ∧ He.Fa.cls x ∈ cfg.fa ∧ He.Fa.noat x "states" ∈ cfg.fa := by
  intro x hx
  simp only [ocl, List.mem_cons, List.mem_singleton, List.not_mem_nil, or_false] at hx
  rcases hx with hx | hx
  · subst hx
    exact ⟨(List.mem_of_getElem? (i := 3) rfl), (List.mem_of_getElem? (i := 49) rfl), (List.mem_of_getElem? (i := 56) rfl)⟩
  · subst hx
    exact ⟨(List.mem_of_getElem? (i := 4) rfl), (List.mem_of_getElem? (i := 50) rfl), (List.mem_of_getElem? (i := 63) rfl)⟩
theorem ocl_tables_ok : ∀ x ∈ ocl, He.Fa.glo x ∈ cfg.fa ∧ He.Fa.cls x ∈ cfg.fa ∧ He.Fa.noat x "tables" ∈ cfg.fa := by
  intro x hx
  simp only [ocl, List.mem_cons, List.mem_singleton, List.not_mem_nil, or_false] at hx
  rcases hx with hx | hx
  · subst hx
    exact ⟨(List.mem_of_getElem? (i := 3) rfl), (List.mem_of_getElem? (i := 49) rfl), (List.mem_of_getElem? (i := 57) rfl)⟩
  · subst hx
    exact ⟨(List.mem_of_getElem? (i := 4) rfl), (List.mem_of_getElem? (i := 50) rfl), (List.mem_of_getElem? (i := 64) rfl)⟩
abbrev N__law_box : List Str := ["_law_script", "_law_k", "_law_cell", "_law_great"]
theorem sc__law_box : FnScope N__law_box ["_law_script", "_law_k"] (defScope s__law_box) := ⟨rfl, rfl, rfl, by decide +kernel, rfl, by decide +kernel, by decide +kernel⟩
theorem fD__law_box (C : Cfx cfg K mg base) : FunD K "_law_box" "_law_box" (defArgs s__law_box) (defBody s__law_box) (defScope s__law_box) [] [] (He.fAd K ("_law_box", none)) (fdOf K ("_law_box", none)) := C.def (d := dd__law_box) (List.mem_of_getElem? (i := 0) rfl)
theorem b__law_box (C : Cfx cfg K mg base) : Binds K (fdOf K ("_law_box", none)) ["_law_script", "_law_k"] [] := (fD__law_box C).bindsN fun _ _ _ _ _ _ us hl => match us, hl with | [_, _], _ => rfl
abbrev N__law_take : List Str := ["_law_box_here", "_law_many", "_law_digit", "_law_raw"]
theorem sc__law_take : FnScope N__law_take ["_law_box_here", "_law_many"] (defScope s__law_take) := ⟨rfl, rfl, rfl, by decide +kernel, rfl, by decide +kernel, by decide +kernel⟩
theorem fD__law_take (C : Cfx cfg K mg base) : FunD K "_law_take" "_law_take" (defArgs s__law_take) (defBody s__law_take) (defScope s__law_take) [] [] (He.fAd K ("_law_take", none)) (fdOf K ("_law_take", none)) := C.def (d := dd__law_take) (List.mem_of_getElem? (i := 1) rfl)
theorem b__law_take (C : Cfx cfg K mg base) : Binds K (fdOf K ("_law_take", none)) ["_law_box_here", "_law_many"] [] := (fD__law_take C).bindsN fun _ _ _ _ _ _ us hl => match us, hl with | [_, _], _ => rfl
abbrev N__law_pick : List Str := ["_law_box_here", "_law_some"]
theorem sc__law_pick : FnScope N__law_pick ["_law_box_here", "_law_some"] (defScope s__law_pick) := ⟨rfl, rfl, rfl, by decide +kernel, rfl, by decide +kernel, by decide +kernel⟩
theorem fD__law_pick (C : Cfx cfg K mg base) : FunD K "_law_pick" "_law_pick" (defArgs s__law_pick) (defBody s__law_pick) (defScope s__law_pick) [] [] (He.fAd K ("_law_pick", none)) (fdOf K ("_law_pick", none)) := C.def (d := dd__law_pick) (List.mem_of_getElem? (i := 2) rfl)
theorem b__law_pick (C : Cfx cfg K mg base) : Binds K (fdOf K ("_law_pick", none)) ["_law_box_here", "_law_some"] [] := (fD__law_pick C).bindsN fun _ _ _ _ _ _ us hl => match us, hl with | [_, _], _ => rfl
abbrev N__law_tables : List Str := ["_law_box_here", "_law_many", "_law_found", "_law_deed", "_law_style", "_law_by", "_law_other", "_law_s"]
theorem sc__law_tables : FnScope N__law_tables ["_law_box_here"] (defScope s__law_tables) := ⟨rfl, rfl, rfl, by decide +kernel, rfl, by decide +kernel, by decide +kernel⟩
theorem fD__law_tables (C : Cfx cfg K mg base) : FunD K "_law_tables" "_law_tables" (defArgs s__law_tables) (defBody s__law_tables) (defScope s__law_tables) [] [] (He.fAd K ("_law_tables", none)) (fdOf K ("_law_tables", none)) := C.def (d := dd__law_tables) (List.mem_of_getElem? (i := 3) rfl)
theorem b__law_tables (C : Cfx cfg K mg base) : Binds K (fdOf K ("_law_tables", none)) ["_law_box_here"] [] := (fD__law_tables C).bindsN fun _ _ _ _ _ _ us hl => match us, hl with | [_], _ => rfl
abbrev N_is_integer : List Str := ["value"]
theorem sc_is_integer : FnScope N_is_integer ["value"] (defScope s_is_integer) := ⟨rfl, rfl, rfl, by decide +kernel, rfl, by decide +kernel, by decide +kernel⟩
theorem fD_is_integer (C : Cfx cfg K mg base) : FunD K "is_integer" "is_integer" (defArgs s_is_integer) (defBody s_is_integer) (defScope s_is_integer) [] [] (He.fAd K ("is_integer", none)) (fdOf K ("is_integer", none)) := C.def (d := dd_is_integer) (List.mem_of_getElem? (i := 4) rfl)
theorem b_is_integer (C : Cfx cfg K mg base) : Binds K (fdOf K ("is_integer", none)) ["value"] [] := (fD_is_integer C).bindsN fun _ _ _ _ _ _ us hl => match us, hl with | [_], _ => rfl
abbrev N_is_number : List Str := ["value"]
theorem sc_is_number : FnScope N_is_number ["value"] (defScope s_is_number) := ⟨rfl, rfl, rfl, by decide +kernel, rfl, by decide +kernel, by decide +kernel⟩
theorem fD_is_number (C : Cfx cfg K mg base) : FunD K "is_number" "is_number" (defArgs s_is_number) (defBody s_is_number) (defScope s_is_number) [] [] (He.fAd K ("is_number", none)) (fdOf K ("is_number", none)) := C.def (d := dd_is_number) (List.mem_of_getElem? (i := 5) rfl)
theorem b_is_number (C : Cfx cfg K mg base) : Binds K (fdOf K ("is_number", none)) ["value"] [] := (fD_is_number C).bindsN fun _ _ _ _ _ _ us hl => match us, hl with | [_], _ => rfl
abbrev N_is_below : List Str := ["value", "most"]
theorem sc_is_below : FnScope N_is_below ["value", "most"] (defScope s_is_below) := ⟨rfl, rfl, rfl, by decide +kernel, rfl, by decide +kernel, by decide +kernel⟩
theorem fD_is_below (C : Cfx cfg K mg base) : FunD K "is_below" "is_below" (defArgs s_is_below) (defBody s_is_below) (defScope s_is_below) [] [] (He.fAd K ("is_below", none)) (fdOf K ("is_below", none)) := C.def (d := dd_is_below) (List.mem_of_getElem? (i := 6) rfl)
theorem b_is_below (C : Cfx cfg K mg base) : Binds K (fdOf K ("is_below", none)) ["value", "most"] [] := (fD_is_below C).bindsN fun _ _ _ _ _ _ us hl => match us, hl with | [_, _], _ => rfl
abbrev N_need_deed : List Str := ["machine", "deed"]
theorem sc_need_deed : FnScope N_need_deed ["machine", "deed"] (defScope s_need_deed) := ⟨rfl, rfl, rfl, by decide +kernel, rfl, by decide +kernel, by decide +kernel⟩
theorem fD_need_deed (C : Cfx cfg K mg base) : FunD K "need_deed" "need_deed" (defArgs s_need_deed) (defBody s_need_deed) (defScope s_need_deed) [] [] (He.fAd K ("need_deed", none)) (fdOf K ("need_deed", none)) := C.def (d := dd_need_deed) (List.mem_of_getElem? (i := 7) rfl)
theorem b_need_deed (C : Cfx cfg K mg base) : Binds K (fdOf K ("need_deed", none)) ["machine", "deed"] [] := (fD_need_deed C).bindsN fun _ _ _ _ _ _ us hl => match us, hl with | [_, _], _ => rfl
abbrev N_moved_paths : List Str := ["table", "paths", "mark", "here"]
theorem sc_moved_paths : FnScope N_moved_paths ["table", "paths"] (defScope s_moved_paths) := ⟨rfl, rfl, rfl, by decide +kernel, rfl, by decide +kernel, by decide +kernel⟩
theorem fD_moved_paths (C : Cfx cfg K mg base) : FunD K "moved_paths" "moved_paths" (defArgs s_moved_paths) (defBody s_moved_paths) (defScope s_moved_paths) [] [] (He.fAd K ("moved_paths", none)) (fdOf K ("moved_paths", none)) := C.def (d := dd_moved_paths) (List.mem_of_getElem? (i := 8) rfl)
theorem b_moved_paths (C : Cfx cfg K mg base) : Binds K (fdOf K ("moved_paths", none)) ["table", "paths"] [] := (fD_moved_paths C).bindsN fun _ _ _ _ _ _ us hl => match us, hl with | [_, _], _ => rfl
abbrev N_with_return : List Str := ["state", "paths", "at", "mark", "here"]
theorem sc_with_return : FnScope N_with_return ["state", "paths"] (defScope s_with_return) := ⟨rfl, rfl, rfl, by decide +kernel, rfl, by decide +kernel, by decide +kernel⟩
theorem fD_with_return (C : Cfx cfg K mg base) : FunD K "with_return" "with_return" (defArgs s_with_return) (defBody s_with_return) (defScope s_with_return) [] [] (He.fAd K ("with_return", none)) (fdOf K ("with_return", none)) := C.def (d := dd_with_return) (List.mem_of_getElem? (i := 9) rfl)
theorem b_with_return (C : Cfx cfg K mg base) : Binds K (fdOf K ("with_return", none)) ["state", "paths"] [] := (fD_with_return C).bindsN fun _ _ _ _ _ _ us hl => match us, hl with | [_, _], _ => rfl
abbrev N_LogNote_put : List Str := ["self", "deed", "table", "state", "found", "paths"]
theorem sc_LogNote_put : FnScope N_LogNote_put ["self", "deed"] (defScope s_LogNote_put) := ⟨rfl, rfl, rfl, by decide +kernel, rfl, by decide +kernel, by decide +kernel⟩
theorem fD_LogNote_put (C : Cfx cfg K mg base) : FunD K "put" "LogNote.put" (defArgs s_LogNote_put) (defBody s_LogNote_put) (defScope s_LogNote_put) [] [] (He.fAd K ("LogNote", some "put")) (fdOf K ("LogNote", some "put")) := C.def (d := dd_LogNote_put) (List.mem_of_getElem? (i := 10) rfl)
theorem b_LogNote_put (C : Cfx cfg K mg base) : Binds K (fdOf K ("LogNote", some "put")) ["self", "deed"] [] := (fD_LogNote_put C).bindsN fun _ _ _ _ _ _ us hl => match us, hl with | [_, _], _ => rfl
abbrev N__law_starts : List Str := ["_law_box_here", "_law_many", "_law_found", "_law_s"]
theorem sc__law_starts : FnScope N__law_starts ["_law_box_here", "_law_many"] (defScope s__law_starts) := ⟨rfl, rfl, rfl, by decide +kernel, rfl, by decide +kernel, by decide +kernel⟩
theorem fD__law_starts (C : Cfx cfg K mg base) : FunD K "_law_starts" "_law_starts" (defArgs s__law_starts) (defBody s__law_starts) (defScope s__law_starts) [] [] (He.fAd K ("_law_starts", none)) (fdOf K ("_law_starts", none)) := C.def (d := dd__law_starts) (List.mem_of_getElem? (i := 11) rfl)
theorem b__law_starts (C : Cfx cfg K mg base) : Binds K (fdOf K ("_law_starts", none)) ["_law_box_here", "_law_many"] [] := (fD__law_starts C).bindsN fun _ _ _ _ _ _ us hl => match us, hl with | [_, _], _ => rfl
abbrev N_is_sequence : List Str := ["value"]
theorem sc_is_sequence : FnScope N_is_sequence ["value"] (defScope s_is_sequence) := ⟨rfl, rfl, rfl, by decide +kernel, rfl, by decide +kernel, by decide +kernel⟩
theorem fD_is_sequence (C : Cfx cfg K mg base) : FunD K "is_sequence" "is_sequence" (defArgs s_is_sequence) (defBody s_is_sequence) (defScope s_is_sequence) [] [] (He.fAd K ("is_sequence", none)) (fdOf K ("is_sequence", none)) := C.def (d := dd_is_sequence) (List.mem_of_getElem? (i := 12) rfl)
theorem b_is_sequence (C : Cfx cfg K mg base) : Binds K (fdOf K ("is_sequence", none)) ["value"] [] := (fD_is_sequence C).bindsN fun _ _ _ _ _ _ us hl => match us, hl with | [_], _ => rfl
abbrev N_is_ascending : List Str := ["value", "most", "one", "other", "number"]
theorem sc_is_ascending : FnScope N_is_ascending ["value", "most"] (defScope s_is_ascending) := ⟨rfl, rfl, rfl, by decide +kernel, rfl, by decide +kernel, by decide +kernel⟩
theorem fD_is_ascending (C : Cfx cfg K mg base) : FunD K "is_ascending" "is_ascending" (defArgs s_is_ascending) (defBody s_is_ascending) (defScope s_is_ascending) [] [] (He.fAd K ("is_ascending", none)) (fdOf K ("is_ascending", none)) := C.def (d := dd_is_ascending) (List.mem_of_getElem? (i := 13) rfl)
theorem b_is_ascending (C : Cfx cfg K mg base) : Binds K (fdOf K ("is_ascending", none)) ["value", "most"] [] := (fD_is_ascending C).bindsN fun _ _ _ _ _ _ us hl => match us, hl with | [_, _], _ => rfl
abbrev N_check_starts : List Str := ["machine", "value"]
theorem sc_check_starts : FnScope N_check_starts ["machine", "value"] (defScope s_check_starts) := ⟨rfl, rfl, rfl, by decide +kernel, rfl, by decide +kernel, by decide +kernel⟩
theorem fD_check_starts (C : Cfx cfg K mg base) : FunD K "check_starts" "check_starts" (defArgs s_check_starts) (defBody s_check_starts) (defScope s_check_starts) [] [] (He.fAd K ("check_starts", none)) (fdOf K ("check_starts", none)) := C.def (d := dd_check_starts) (List.mem_of_getElem? (i := 14) rfl)
theorem b_check_starts (C : Cfx cfg K mg base) : Binds K (fdOf K ("check_starts", none)) ["machine", "value"] [] := (fD_check_starts C).bindsN fun _ _ _ _ _ _ us hl => match us, hl with | [_, _], _ => rfl
abbrev N_LogNote___init__ : List Str := ["self", "machine", "starts", "state"]
theorem sc_LogNote___init__ : FnScope N_LogNote___init__ ["self", "machine", "starts"] (defScope s_LogNote___init__) := ⟨rfl, rfl, rfl, by decide +kernel, rfl, by decide +kernel, by decide +kernel⟩
theorem fD_LogNote___init__ (C : Cfx cfg K mg base) : FunD K "__init__" "LogNote.__init__" (defArgs s_LogNote___init__) (defBody s_LogNote___init__) (defScope s_LogNote___init__) [] [("starts", L2.V.non)] (He.fAd K ("LogNote", some "__init__")) (fdOf K ("LogNote", some "__init__")) := C.def (d := dd_LogNote___init__) (List.mem_of_getElem? (i := 15) rfl)
abbrev N__law_led : List Str := ["_law_tables_here", "_law_state", "_law_log", "_law_deed"]
theorem sc__law_led : FnScope N__law_led ["_law_tables_here", "_law_state", "_law_log"] (defScope s__law_led) := ⟨rfl, rfl, rfl, by decide +kernel, rfl, by decide +kernel, by decide +kernel⟩
theorem fD__law_led (C : Cfx cfg K mg base) : FunD K "_law_led" "_law_led" (defArgs s__law_led) (defBody s__law_led) (defScope s__law_led) [] [] (He.fAd K ("_law_led", none)) (fdOf K ("_law_led", none)) := C.def (d := dd__law_led) (List.mem_of_getElem? (i := 16) rfl)
theorem b__law_led (C : Cfx cfg K mg base) : Binds K (fdOf K ("_law_led", none)) ["_law_tables_here", "_law_state", "_law_log"] [] := (fD__law_led C).bindsN fun _ _ _ _ _ _ us hl => match us, hl with | [_, _, _], _ => rfl
abbrev N_is_table : List Str := ["value", "states", "state"]
theorem sc_is_table : FnScope N_is_table ["value", "states"] (defScope s_is_table) := ⟨rfl, rfl, rfl, by decide +kernel, rfl, by decide +kernel, by decide +kernel⟩
theorem fD_is_table (C : Cfx cfg K mg base) : FunD K "is_table" "is_table" (defArgs s_is_table) (defBody s_is_table) (defScope s_is_table) [] [] (He.fAd K ("is_table", none)) (fdOf K ("is_table", none)) := C.def (d := dd_is_table) (List.mem_of_getElem? (i := 17) rfl)
theorem b_is_table (C : Cfx cfg K mg base) : Binds K (fdOf K ("is_table", none)) ["value", "states"] [] := (fD_is_table C).bindsN fun _ _ _ _ _ _ us hl => match us, hl with | [_, _], _ => rfl
abbrev N_check_tables : List Str := ["tables", "states", "at", "table"]
theorem sc_check_tables : FnScope N_check_tables ["tables"] (defScope s_check_tables) := ⟨rfl, rfl, rfl, by decide +kernel, rfl, by decide +kernel, by decide +kernel⟩
theorem fD_check_tables (C : Cfx cfg K mg base) : FunD K "check_tables" "check_tables" (defArgs s_check_tables) (defBody s_check_tables) (defScope s_check_tables) [] [] (He.fAd K ("check_tables", none)) (fdOf K ("check_tables", none)) := C.def (d := dd_check_tables) (List.mem_of_getElem? (i := 18) rfl)
theorem b_check_tables (C : Cfx cfg K mg base) : Binds K (fdOf K ("check_tables", none)) ["tables"] [] := (fD_check_tables C).bindsN fun _ _ _ _ _ _ us hl => match us, hl with | [_], _ => rfl
abbrev N_Machine___init__ : List Str := ["self", "tables"]
theorem sc_Machine___init__ : FnScope N_Machine___init__ ["self", "tables"] (defScope s_Machine___init__) := ⟨rfl, rfl, rfl, by decide +kernel, rfl, by decide +kernel, by decide +kernel⟩
theorem fD_Machine___init__ (C : Cfx cfg K mg base) : FunD K "__init__" "Machine.__init__" (defArgs s_Machine___init__) (defBody s_Machine___init__) (defScope s_Machine___init__) [] [] (He.fAd K ("Machine", some "__init__")) (fdOf K ("Machine", some "__init__")) := C.def (d := dd_Machine___init__) (List.mem_of_getElem? (i := 19) rfl)
theorem b_Machine___init__ (C : Cfx cfg K mg base) : Binds K (fdOf K ("Machine", some "__init__")) ["self", "tables"] [] := (fD_Machine___init__ C).bindsN fun _ _ _ _ _ _ us hl => match us, hl with | [_, _], _ => rfl
abbrev N_need_state : List Str := ["machine", "state"]
theorem sc_need_state : FnScope N_need_state ["machine", "state"] (defScope s_need_state) := ⟨rfl, rfl, rfl, by decide +kernel, rfl, by decide +kernel, by decide +kernel⟩
theorem fD_need_state (C : Cfx cfg K mg base) : FunD K "need_state" "need_state" (defArgs s_need_state) (defBody s_need_state) (defScope s_need_state) [] [] (He.fAd K ("need_state", none)) (fdOf K ("need_state", none)) := C.def (d := dd_need_state) (List.mem_of_getElem? (i := 20) rfl)
theorem b_need_state (C : Cfx cfg K mg base) : Binds K (fdOf K ("need_state", none)) ["machine", "state"] [] := (fD_need_state C).bindsN fun _ _ _ _ _ _ us hl => match us, hl with | [_, _], _ => rfl
abbrev N_behind : List Str := ["tables", "state", "log", "deed"]
theorem sc_behind : FnScope N_behind ["tables", "state", "log"] (defScope s_behind) := ⟨rfl, rfl, rfl, by decide +kernel, rfl, by decide +kernel, by decide +kernel⟩
theorem fD_behind (C : Cfx cfg K mg base) : FunD K "behind" "behind" (defArgs s_behind) (defBody s_behind) (defScope s_behind) [] [] (He.fAd K ("behind", none)) (fdOf K ("behind", none)) := C.def (d := dd_behind) (List.mem_of_getElem? (i := 21) rfl)
theorem b_behind (C : Cfx cfg K mg base) : Binds K (fdOf K ("behind", none)) ["tables", "state", "log"] [] := (fD_behind C).bindsN fun _ _ _ _ _ _ us hl => match us, hl with | [_, _, _], _ => rfl
abbrev N_check_log : List Str := ["machine", "value", "at", "deed"]
theorem sc_check_log : FnScope N_check_log ["machine", "value"] (defScope s_check_log) := ⟨rfl, rfl, rfl, by decide +kernel, rfl, by decide +kernel, by decide +kernel⟩
theorem fD_check_log (C : Cfx cfg K mg base) : FunD K "check_log" "check_log" (defArgs s_check_log) (defBody s_check_log) (defScope s_check_log) [] [] (He.fAd K ("check_log", none)) (fdOf K ("check_log", none)) := C.def (d := dd_check_log) (List.mem_of_getElem? (i := 22) rfl)
theorem b_check_log (C : Cfx cfg K mg base) : Binds K (fdOf K ("check_log", none)) ["machine", "value"] [] := (fD_check_log C).bindsN fun _ _ _ _ _ _ us hl => match us, hl with | [_, _], _ => rfl
abbrev N_LogNote_read : List Str := ["self", "state", "mark", "later", "here"]
theorem sc_LogNote_read : FnScope N_LogNote_read ["self", "state", "mark", "later"] (defScope s_LogNote_read) := ⟨rfl, rfl, rfl, by decide +kernel, rfl, by decide +kernel, by decide +kernel⟩
theorem fD_LogNote_read (C : Cfx cfg K mg base) : FunD K "read" "LogNote.read" (defArgs s_LogNote_read) (defBody s_LogNote_read) (defScope s_LogNote_read) [(L2.V.ref (He.dflAt ("LogNote", some "read") 0 K))] [] (He.fAd K ("LogNote", some "read")) (fdOf K ("LogNote", some "read")) := C.def (d := dd_LogNote_read) (List.mem_of_getElem? (i := 23) rfl)
abbrev N__law_copies_right : List Str := ["_law_note", "_law_tables_here", "_law_starts_here", "_law_log", "_law_copies", "_law_state", "_law_mark", "_law_age", "_law_now", "_law_s"]
theorem sc__law_copies_right : FnScope N__law_copies_right ["_law_note", "_law_tables_here", "_law_starts_here", "_law_log", "_law_copies"] (defScope s__law_copies_right) := ⟨rfl, rfl, rfl, by decide +kernel, rfl, by decide +kernel, by decide +kernel⟩
theorem fD__law_copies_right (C : Cfx cfg K mg base) : FunD K "_law_copies_right" "_law_copies_right" (defArgs s__law_copies_right) (defBody s__law_copies_right) (defScope s__law_copies_right) [] [] (He.fAd K ("_law_copies_right", none)) (fdOf K ("_law_copies_right", none)) := C.def (d := dd__law_copies_right) (List.mem_of_getElem? (i := 24) rfl)
theorem b__law_copies_right (C : Cfx cfg K mg base) : Binds K (fdOf K ("_law_copies_right", none)) ["_law_note", "_law_tables_here", "_law_starts_here", "_law_log", "_law_copies"] [] := (fD__law_copies_right C).bindsN fun _ _ _ _ _ _ us hl => match us, hl with | [_, _, _, _, _], _ => rfl
abbrev N_LogNote_mark : List Str := ["self", "state"]
theorem sc_LogNote_mark : FnScope N_LogNote_mark ["self", "state"] (defScope s_LogNote_mark) := ⟨rfl, rfl, rfl, by decide +kernel, rfl, by decide +kernel, by decide +kernel⟩
theorem fD_LogNote_mark (C : Cfx cfg K mg base) : FunD K "mark" "LogNote.mark" (defArgs s_LogNote_mark) (defBody s_LogNote_mark) (defScope s_LogNote_mark) [] [] (He.fAd K ("LogNote", some "mark")) (fdOf K ("LogNote", some "mark")) := C.def (d := dd_LogNote_mark) (List.mem_of_getElem? (i := 25) rfl)
theorem b_LogNote_mark (C : Cfx cfg K mg base) : Binds K (fdOf K ("LogNote", some "mark")) ["self", "state"] [] := (fD_LogNote_mark C).bindsN fun _ _ _ _ _ _ us hl => match us, hl with | [_, _], _ => rfl
abbrev N_law : List Str := ["_law_script", "_law_box_here", "_law_tables_here", "_law_many", "_law_starts_here", "_law_note", "_law_log", "_law_copies", "_law_k", "_law_turn", "_law_state", "_law_deed", "_law_ends", "_law_mark", "_law_age", "_law_end", "_law_row"]
theorem sc_law : FnScope N_law ["_law_script"] (defScope s_law) := ⟨rfl, rfl, rfl, by decide +kernel, rfl, by decide +kernel, by decide +kernel⟩
theorem fD_law (C : Cfx cfg K mg base) : FunD K "law" "law" (defArgs s_law) (defBody s_law) (defScope s_law) [] [] (He.fAd K ("law", none)) (fdOf K ("law", none)) := C.def (d := dd_law) (List.mem_of_getElem? (i := 26) rfl)
theorem b_law (C : Cfx cfg K mg base) : Binds K (fdOf K ("law", none)) ["_law_script"] [] := (fD_law C).bindsN fun _ _ _ _ _ _ us hl => match us, hl with | [_], _ => rfl
theorem db_LogNote_read_3 (C : Cfx cfg K mg base) : ∃ ds, Vals (List.drop 0 [(L2.V.ref (He.dflAt ("LogNote", some "read") 0 K))]) ds ∧ Binds K (fdOf K ("LogNote", some "read")) ["self", "state", "mark", "later"] ds := FunD.binds1 (ps := ["self", "state", "mark", "later"]) (fD_LogNote_read C) 3 0 (by simp) rfl (fun _ _ _ _ _ _ _ us its l1 l2 => match us, l1, its, l2 with | [_, _, _], _, [_], _ => ⟨_, rfl, rfl⟩)
theorem dd_LogNote_read_3 (C : Cfx cfg K mg base) : ∀ G, Reps ⟨K, mg, LT.tf K⟩ G [(DL.D.tup [])] (List.drop 0 [(L2.V.ref (He.dflAt ("LogNote", some "read") 0 K))]) := fun G => ⟨_, _, rfl, C.etup (List.mem_of_getElem? (i := 0) rfl) G, rfl⟩
theorem mets_LogNote_mark (C : Cfx cfg K mg base) : ∀ y ∈ (["LogNote"] : List Str), ∀ D, mg y = some (.ref D) → Cls K D ∧ Meth K D "mark" (He.fAd K ("LogNote", some "mark")) := C.mets (List.mem_of_getElem? (i := 3) rfl) (List.mem_of_getElem? (i := 49) rfl) (List.mem_of_getElem? (i := 67) rfl)
theorem mets_LogNote_put (C : Cfx cfg K mg base) : ∀ y ∈ (["LogNote"] : List Str), ∀ D, mg y = some (.ref D) → Cls K D ∧ Meth K D "put" (He.fAd K ("LogNote", some "put")) := C.mets (List.mem_of_getElem? (i := 3) rfl) (List.mem_of_getElem? (i := 49) rfl) (List.mem_of_getElem? (i := 68) rfl)
theorem mets_LogNote_read (C : Cfx cfg K mg base) : ∀ y ∈ (["LogNote"] : List Str), ∀ D, mg y = some (.ref D) → Cls K D ∧ Meth K D "read" (He.fAd K ("LogNote", some "read")) := C.mets (List.mem_of_getElem? (i := 3) rfl) (List.mem_of_getElem? (i := 49) rfl) (List.mem_of_getElem? (i := 69) rfl)
theorem kb_0_rep (C : Cfx cfg K mg base) {G : Hp} {ds es : List D} {vs zs : List V} (a : Reps ⟨K, mg, LT.tf K⟩ G ds vs) (b : Reps ⟨K, mg, LT.tf K⟩ G es zs) : Reps ⟨K, mg, LT.tf K⟩ G (permL [0] ds ([] ++ es)) (permL [0] vs ([] ++ zs)) := permL_reps [0] a (Reps.append (xs := []) (vs := []) rfl b)
abbrev kb_0_gD : List D → List D → List D := fun ds es => permL [0] ds ([] ++ es)
theorem kb_0 (C : Cfx cfg K mg base) : ∃ g, KBd ⟨K, mg, LT.tf K⟩ (fdOf K ("LogNote", some "__init__")) ["self", "machine", "starts"] 2 ["starts"] g (fun vs zs => permL [0] vs ([] ++ zs)) kb_0_gD := DL.FunD.kbd0 (R := ⟨K, mg, LT.tf K⟩) (ms := []) (dm := []) [0] (fD_LogNote___init__ C) (by simp) (by simp) (fun _ => rfl) (fun D doc pm an cdv ct us mv ws l1 l2 l3 => match us, l1, mv, l2, ws, l3 with | [_, _], _, [], _, [_], _ => rfl)
end
end K32

namespace K32
open PySem PySem.Spec PyProof.Rows L2 LamX DL
section
variable {w : World} {K : PySem.W.Frag} {mg : Str → Option Value} {base : Heap}
def F__law_box : MS := (seqS (setS 2 (bin2 gAdd (bin2 gMulA (cst (.int 5953)) (rd 1)) (cst (.int 673))))
    (seqS (ifS (asB (bin2 gLt (rd 1) (onL gLen (consM (rd 0) nil0)))) (setS 2 (onL gAbs (consM (onL gInt (consM (bin2 gIx (rd 0) (rd 1)) nil0)) nil0))) (ifS (asB (bin2 gGt (onL gLen (consM (rd 0) nil0)) (cst (.int 0)))) (setS 2 (bin2 gAdd (rd 2) (bin2 gMulA (bin2 gMod (onL gInt (consM (onL gAbs (consM (onL gInt (consM (bin2 gIx (rd 0) (bin2 gMod (onL gInt (consM (rd 1) nil0)) (onL gLen (consM (rd 0) nil0)))) nil0)) nil0)) nil0)) (cst (.int 2147483563))) (cst (.int 41201))))) .nx))
    (seqS (setS 3 (ifE (asB (bin2 gGe (rd 2) (bin2 gPow (cst (.int 10)) (cst (.int 18))))) (rd 2) (cst (.int 0))))
    (retO (ownL (consM (rd 3) (consM (bin2 gAdd (bin2 gMod (onL gInt (consM (bin2 gAdd (bin2 gMulA (bin2 gMod (onL gInt (consM (rd 2) nil0)) (cst (.int 2147483563))) (cst (.int 40014))) (bin2 gMulA (cst (.int 6857)) (rd 1))) nil0)) (cst (.int 2147483563))) (cst (.int 1))) nil0)))))))
theorem d__law_box (C : Cfx cfg K mg base) (A : Around) (outer : List Env) (s : Shared) (H : Hp) (E : XK) (hg : A.guards = some []) (hr : Room 0 (A.deeper (envOfC "_law_box" (defScope s__law_box) s.heap.objs.size (He.fAd K ("_law_box", none)) (.ref (He.codeOf K ("_law_box", none)))))) :
    DSs (cxOf (CX cfg.prog w) cfg.prog w K mg base N__law_box "_law_box" (defScope s__law_box) (He.fAd K ("_law_box", none)) (.ref (He.codeOf K ("_law_box", none))) A outer s H E) (WofE E) Pn (defBody s__law_box) F__law_box := by
  have tk : Takes (cxOf (CX cfg.prog w) cfg.prog w K mg base N__law_box "_law_box" (defScope s__law_box) (He.fAd K ("_law_box", none)) (.ref (He.codeOf K ("_law_box", none))) A outer s H E) (WofE E) := takes_of rfl rfl rfl rfl
  have hx := fun σ => passAt tk σ
  have hp := passes_of (X := cxOf (CX cfg.prog w) cfg.prog w K mg base N__law_box "_law_box" (defScope s__law_box) (He.fAd K ("_law_box", none)) (.ref (He.codeOf K ("_law_box", none))) A outer s H E) rfl
  unfold F__law_box
  exact (dss_cons (ds_set sc__law_box.nd rfl (.inl rfl) rfl (de_add (de_mulA de_int (de_var (pe_var (i := 1) rfl (.inl rfl)))) de_int))
    (dss_cons (ds_if (dt_cm cm_lt (de_var (pe_var (i := 1) rfl (.inl rfl))) (de_callB call_len cd_len rfl (m_len C) rfl (da_cons (de_var (pe_var (i := 0) rfl (.inl rfl))) da_nil)) rfl) (dss_one (ds_set sc__law_box.nd rfl (.inl rfl) rfl (de_callB call_abs cd_abs rfl (m_abs C) rfl (da_cons (de_callT call_int1 cd_int rfl (m_int C) rfl (da_cons (de_ix (de_var (pe_var (i := 0) rfl (.inl rfl))) (de_var (pe_var (i := 1) rfl (.inl rfl))) (fun _ _ => rfl)) da_nil)) da_nil)))) (dss_one (ds_if (dt_cm cm_gt (de_callB call_len cd_len rfl (m_len C) rfl (da_cons (de_var (pe_var (i := 0) rfl (.inl rfl))) da_nil)) de_int rfl) (dss_one (ds_set sc__law_box.nd rfl (.inl rfl) rfl (de_add (de_var (pe_var (i := 2) rfl (.inl rfl))) (de_mulA (de_mod (de_callT call_int1 cd_int rfl (m_int C) rfl (da_cons (de_callB call_abs cd_abs rfl (m_abs C) rfl (da_cons (de_callT call_int1 cd_int rfl (m_int C) rfl (da_cons (de_ix (de_var (pe_var (i := 0) rfl (.inl rfl))) (de_mod (de_callT call_int1 cd_int rfl (m_int C) rfl (da_cons (de_var (pe_var (i := 1) rfl (.inl rfl))) da_nil)) (de_callB call_len cd_len rfl (m_len C) rfl (da_cons (de_var (pe_var (i := 0) rfl (.inl rfl))) da_nil))) (fun _ _ => rfl)) da_nil)) da_nil)) da_nil)) de_int) de_int)))) dss_nil)))
    (dss_cons (ds_set sc__law_box.nd rfl (.inl rfl) rfl (de_if (dt_cm cm_ge (de_var (pe_var (i := 2) rfl (.inl rfl))) (de_pow de_int de_int) rfl) (de_var (pe_var (i := 2) rfl (.inl rfl))) de_int))
    (dss_one (ds_retO (do_lst (da_cons (de_var (pe_var (i := 3) rfl (.inl rfl))) (da_cons (de_add (de_mod (de_callT call_int1 cd_int rfl (m_int C) rfl (da_cons (de_add (de_mulA (de_mod (de_callT call_int1 cd_int rfl (m_int C) rfl (da_cons (de_var (pe_var (i := 2) rfl (.inl rfl))) da_nil)) de_int) de_int) (de_mulA de_int (de_var (pe_var (i := 1) rfl (.inl rfl))))) da_nil)) de_int) de_int) da_nil))))))))
def S__law_box : List EV → Out EV := fnS 2 4 Pn F__law_box
theorem ok__law_box (C : Cfx cfg K mg base) : FnG cfg.prog w K mg base 1 (He.fAd K ("_law_box", none)) (fdOf K ("_law_box", none)) ["_law_script", "_law_k"] S__law_box :=
  fnG_ofC (fD__law_box C) sc__law_box (by decide) fun A outer s H E hg hr => d__law_box C A outer s H E hg hr
abbrev Pr__law_take : Nat → Bool := (fun i => i == 0)
def F__law_take : MS := (seqS (ifS (asB (bin2 gGt (pkIx 0 (cst (.int 0))) (cst (.int 0)))) (seqS (setS 2 (bin2 gMod (onL gInt (consM (pkIx 0 (cst (.int 0))) nil0)) (rd 1)))
    (seqS (setIx 0 (bin2 gDiv (pkIx 0 (cst (.int 0))) (rd 1)) (cst (.int 0)))
    (retS (rd 2)))) .nx)
    (seqS (setS 3 (bin2 gMod (onL gInt (consM (bin2 gAdd (bin2 gMulA (pkIx 0 (cst (.int 1))) (cst (.int 39373))) (cst (.int 331))) nil0)) (cst (.int 2147483647))))
    (seqS (setIx 0 (bin2 gAdd (bin2 gMod (onL gInt (consM (bin2 gAdd (bin2 gMulA (rd 3) (cst (.int 40692))) (cst (.int 37))) nil0)) (cst (.int 2147483399))) (cst (.int 1))) (cst (.int 1)))
    (retS (bin2 gMod (onL gInt (consM (bin2 gDiv (bin2 gAdd (bin2 gMulA (rd 3) (cst (.int 2147483629))) (pkIx 0 (cst (.int 1)))) (cst (.int 8209))) nil0)) (rd 1))))))
theorem d__law_take (C : Cfx cfg K mg base) (A : Around) (outer : List Env) (s : Shared) (H : Hp) (E : XK) (hg : A.guards = some []) (hr : Room 0 (A.deeper (envOfC "_law_take" (defScope s__law_take) s.heap.objs.size (He.fAd K ("_law_take", none)) (.ref (He.codeOf K ("_law_take", none)))))) :
    DSs (cxOf (CX cfg.prog w) cfg.prog w K mg base N__law_take "_law_take" (defScope s__law_take) (He.fAd K ("_law_take", none)) (.ref (He.codeOf K ("_law_take", none))) A outer s H E) (WofE E) Pr__law_take (defBody s__law_take) F__law_take := by
  have tk : Takes (cxOf (CX cfg.prog w) cfg.prog w K mg base N__law_take "_law_take" (defScope s__law_take) (He.fAd K ("_law_take", none)) (.ref (He.codeOf K ("_law_take", none))) A outer s H E) (WofE E) := takes_of rfl rfl rfl rfl
  have hx := fun σ => passAt tk σ
  have hp := passes_of (X := cxOf (CX cfg.prog w) cfg.prog w K mg base N__law_take "_law_take" (defScope s__law_take) (He.fAd K ("_law_take", none)) (.ref (He.codeOf K ("_law_take", none))) A outer s H E) rfl
  unfold F__law_take
  exact (dss_cons (ds_if (dt_cm cm_gt (de_pkIx (pe_var (i := 0) rfl (.inl rfl)) de_int (fun _ _ => rfl)) de_int rfl) (dss_cons (ds_set sc__law_take.nd rfl (.inl rfl) rfl (de_mod (de_callT call_int1 cd_int rfl (m_int C) rfl (da_cons (de_pkIx (pe_var (i := 0) rfl (.inl rfl)) de_int (fun _ _ => rfl)) da_nil)) (de_var (pe_var (i := 1) rfl (.inl rfl)))))
    (dss_cons (ds_setIx (pe_var (i := 0) rfl (.inl rfl)) (de_div (de_pkIx (pe_var (i := 0) rfl (.inl rfl)) de_int (fun _ _ => rfl)) (de_var (pe_var (i := 1) rfl (.inl rfl)))) de_int)
    (dss_one (ds_ret (de_var (pe_var (i := 2) rfl (.inl rfl))))))) dss_nil)
    (dss_cons (ds_set sc__law_take.nd rfl (.inl rfl) rfl (de_mod (de_callT call_int1 cd_int rfl (m_int C) rfl (da_cons (de_add (de_mulA (de_pkIx (pe_var (i := 0) rfl (.inl rfl)) de_int (fun _ _ => rfl)) de_int) de_int) da_nil)) de_int))
    (dss_cons (ds_setIx (pe_var (i := 0) rfl (.inl rfl)) (de_add (de_mod (de_callT call_int1 cd_int rfl (m_int C) rfl (da_cons (de_add (de_mulA (de_var (pe_var (i := 3) rfl (.inl rfl))) de_int) de_int) da_nil)) de_int) de_int) de_int)
    (dss_one (ds_ret (de_mod (de_callT call_int1 cd_int rfl (m_int C) rfl (da_cons (de_div (de_add (de_mulA (de_var (pe_var (i := 3) rfl (.inl rfl))) de_int) (de_pkIx (pe_var (i := 0) rfl (.inl rfl)) de_int (fun _ _ => rfl))) de_int) da_nil)) (de_var (pe_var (i := 1) rfl (.inl rfl)))))))))
def S__law_take : List EV → Out EV := fnS 2 4 Pr__law_take F__law_take
theorem ok__law_take (C : Cfx cfg K mg base) : FnG cfg.prog w K mg base 1 (He.fAd K ("_law_take", none)) (fdOf K ("_law_take", none)) ["_law_box_here", "_law_many"] S__law_take :=
  fnG_ofC (fD__law_take C) sc__law_take (by decide) fun A outer s H E hg hr => d__law_take C A outer s H E hg hr
abbrev Pr__law_pick : Nat → Bool := (fun i => i == 0)
def F__law_pick : MS := (retS (bin2 gIx (rd 1) (frzM (callF 2 S__law_take [] (consI 0 (consD (onL gLen (consM (rd 1) nil0)) nilX))))))
theorem d__law_pick (C : Cfx cfg K mg base) (A : Around) (outer : List Env) (s : Shared) (H : Hp) (E : XK) (hg : A.guards = some []) (hr : Room 1 (A.deeper (envOfC "_law_pick" (defScope s__law_pick) s.heap.objs.size (He.fAd K ("_law_pick", none)) (.ref (He.codeOf K ("_law_pick", none)))))) :
    DSs (cxOf (CX cfg.prog w) cfg.prog w K mg base N__law_pick "_law_pick" (defScope s__law_pick) (He.fAd K ("_law_pick", none)) (.ref (He.codeOf K ("_law_pick", none))) A outer s H E) (WofE E) Pr__law_pick (defBody s__law_pick) F__law_pick := by
  have tk : Takes (cxOf (CX cfg.prog w) cfg.prog w K mg base N__law_pick "_law_pick" (defScope s__law_pick) (He.fAd K ("_law_pick", none)) (.ref (He.codeOf K ("_law_pick", none))) A outer s H E) (WofE E) := takes_of rfl rfl rfl rfl
  have hx := fun σ => passAt tk σ
  have hp := passes_of (X := cxOf (CX cfg.prog w) cfg.prog w K mg base N__law_pick "_law_pick" (defScope s__law_pick) (He.fAd K ("_law_pick", none)) (.ref (He.codeOf K ("_law_pick", none))) A outer s H E) rfl
  unfold F__law_pick
  exact (dss_one (ds_ret (de_ix (de_var (pe_var (i := 1) rfl (.inl rfl))) (de_of_do (do_callN (ok__law_take C) rfl hg (hr.mono (by decide)) rfl (m__law_take C) (fD__law_take C).kp (b__law_take C) .nil (fun _ => rfl) hx (dx_io (pe_var (i := 0) rfl (.inl rfl)) (dx_cons (de_callB call_len cd_len rfl (m_len C) rfl (da_cons (de_var (pe_var (i := 1) rfl (.inl rfl))) da_nil)) dx_nil)))) (fun _ _ => rfl))))
def S__law_pick : List EV → Out EV := fnS 2 2 Pr__law_pick F__law_pick
theorem ok__law_pick (C : Cfx cfg K mg base) : FnG cfg.prog w K mg base 2 (He.fAd K ("_law_pick", none)) (fdOf K ("_law_pick", none)) ["_law_box_here", "_law_some"] S__law_pick :=
  fnG_ofC (fD__law_pick C) sc__law_pick (by decide) fun A outer s H E hg hr => d__law_pick C A outer s H E hg hr
abbrev Pr__law_tables : Nat → Bool := (fun i => i == 0)
def F__law_tables : MS := (seqS (parN [1, 2] (consO (vM (frzM (callF 2 S__law_pick [] (consI 0 (consD (onL gLst (consM (cst (.int 3)) (consM (cst (.int 2)) (consM (cst (.int 4)) (consM (cst (.int 3)) (consM (cst (.int 5)) (consM (cst (.int 1)) nil0))))))) nilX))))) (consO (ownL nil0) nilO)))
    (seqS (forS (onI gRg1 (consM (frzM (callF 2 S__law_pick [] (consI 0 (consD (onL gLst (consM (cst (.int 2)) (consM (cst (.int 2)) (consM (cst (.int 1)) (consM (cst (.int 3)) nil0))))) nilX)))) nil0)) (put 3) (seqS (parN [4, 5] (consO (vM (frzM (callF 2 S__law_take [] (consI 0 (consD (cst (.int 6)) nilX))))) (consO (vM (frzM (callF 2 S__law_take [] (consI 0 (consD (rd 1) nilX))))) nilO)))
    (ifS (asB (bin2 gEq (rd 4) (cst (.int 0)))) (appS 2 (onL gTupOf (consM (lstM (bnd (onI gRg1 (consM (rd 1) nil0)) (lcB [7] (put 7) trueT (bin2 gMod (onL gInt (consM (bin2 gAdd (bin2 gAdd (rd 7) (cst (.int 1))) (rd 5)) nil0)) (rd 1))))) nil0))) (ifS (asB (bin2 gEq (rd 4) (cst (.int 1)))) (appS 2 (onL gTupOf (consM (lstM (bnd (onI gRg1 (consM (rd 1) nil0)) (lcB [7] (put 7) trueT (onL gMin2 (consM (bin2 gSub (rd 1) (cst (.int 1))) (consM (bin2 gAdd (rd 7) (cst (.int 1))) nil0)))))) nil0))) (ifS (asB (bin2 gEq (rd 4) (cst (.int 2)))) (appS 2 (onL gTupOf (consM (lstM (bnd (onI gRg1 (consM (rd 1) nil0)) (lcB [7] (put 7) trueT (rd 5)))) nil0))) (ifS (asB (bin2 gEq (rd 4) (cst (.int 3)))) (seqS (setS 6 (frzM (callF 2 S__law_take [] (consI 0 (consD (rd 1) nilX)))))
    (appS 2 (onL gTupOf (consM (lstM (bnd (onI gRg1 (consM (rd 1) nil0)) (lcB [7] (put 7) trueT (ifE (asB (bin2 gEq (rd 7) (rd 5))) (rd 6) (ifE (asB (bin2 gEq (rd 7) (rd 6))) (rd 5) (rd 7)))))) nil0)))) (appS 2 (onL gTupOf (consM (lstM (bnd (onI gRg1 (consM (rd 1) nil0)) (lcB [7] (put 7) trueT (frzM (callF 2 S__law_take [] (consI 0 (consD (rd 1) nilX))))))) nil0)))))))))
    (retS (rdF 2))))
theorem d__law_tables (C : Cfx cfg K mg base) (A : Around) (outer : List Env) (s : Shared) (H : Hp) (E : XK) (hg : A.guards = some []) (hr : Room 2 (A.deeper (envOfC "_law_tables" (defScope s__law_tables) s.heap.objs.size (He.fAd K ("_law_tables", none)) (.ref (He.codeOf K ("_law_tables", none)))))) :
    DSs (cxOf (CX cfg.prog w) cfg.prog w K mg base N__law_tables "_law_tables" (defScope s__law_tables) (He.fAd K ("_law_tables", none)) (.ref (He.codeOf K ("_law_tables", none))) A outer s H E) (WofE E) Pr__law_tables (defBody s__law_tables) F__law_tables := by
  have tk : Takes (cxOf (CX cfg.prog w) cfg.prog w K mg base N__law_tables "_law_tables" (defScope s__law_tables) (He.fAd K ("_law_tables", none)) (.ref (He.codeOf K ("_law_tables", none))) A outer s H E) (WofE E) := takes_of rfl rfl rfl rfl
  have hx := fun σ => passAt tk σ
  have hp := passes_of (X := cxOf (CX cfg.prog w) cfg.prog w K mg base N__law_tables "_law_tables" (defScope s__law_tables) (He.fAd K ("_law_tables", none)) (.ref (He.codeOf K ("_law_tables", none))) A outer s H E) rfl
  unfold F__law_tables
  exact (dss_cons (ds_parT rfl (dns_cons sc__law_tables.nd rfl (.inr rfl) (dns_cons sc__law_tables.nd rfl (.inl rfl) dns_nil)) (by decide) (dos_cons (do_of_de (de_of_do (do_callN (ok__law_pick C) rfl hg (hr.mono (by decide)) rfl (m__law_pick C) (fD__law_pick C).kp (b__law_pick C) .nil (fun _ => rfl) hx (dx_io (pe_var (i := 0) rfl (.inr (.inl rfl))) (dx_cons (de_lst (da_cons de_int (da_cons de_int (da_cons de_int (da_cons de_int (da_cons de_int (da_cons de_int da_nil))))))) dx_nil))))) (dos_cons (do_lst da_nil) dos_nil)) rfl rfl)
    (dss_cons (ds_for hp rfl (di_rg1 rfl (m_range C) (da_cons (de_of_do (do_callN (ok__law_pick C) rfl hg (hr.mono (by decide)) rfl (m__law_pick C) (fD__law_pick C).kp (b__law_pick C) .nil (fun _ => rfl) hx (dx_io (pe_var (i := 0) rfl (.inr (.inl rfl))) (dx_cons (de_lst (da_cons de_int (da_cons de_int (da_cons de_int (da_cons de_int da_nil))))) dx_nil)))) da_nil)) (dg_name sc__law_tables.nd rfl (.inl rfl) rfl) (dss_cons (ds_parT rfl (dns_cons sc__law_tables.nd rfl (.inl rfl) (dns_cons sc__law_tables.nd rfl (.inr rfl) dns_nil)) (by decide) (dos_cons (do_of_de (de_of_do (do_callN (ok__law_take C) rfl hg (hr.mono (by decide)) rfl (m__law_take C) (fD__law_take C).kp (b__law_take C) .nil (fun _ => rfl) hx (dx_io (pe_var (i := 0) rfl (.inr (.inl rfl))) (dx_cons de_int dx_nil))))) (dos_cons (do_of_de (de_of_do (do_callN (ok__law_take C) rfl hg (hr.mono (by decide)) rfl (m__law_take C) (fD__law_take C).kp (b__law_take C) .nil (fun _ => rfl) hx (dx_io (pe_var (i := 0) rfl (.inr (.inl rfl))) (dx_cons (de_var (pe_var (i := 1) rfl (.inr (.inl rfl)))) dx_nil))))) dos_nil)) rfl rfl)
    (dss_one (ds_if (dt_cm (cm_eq (hr).units) (de_var (pe_var (i := 4) rfl (.inl rfl))) de_int rfl) (dss_one (ds_append (pe_var (i := 2) rfl (.inl rfl)) (de_callT call_tuple_ofZ cd_tupOf rfl (m_tuple C) rfl (da_cons (de_lcN (own := [("_law_s", 7)]) rfl rfl sc__law_tables.nd (di_rg1 rfl (m_range C) (da_cons (de_var (pe_var (i := 1) rfl (.inr (.inl rfl)))) da_nil)) (blkOk_by (by kernel_rfl)) (fun _ _ _ _ _ => (dg_name sc__law_tables.nd rfl (.inl rfl) rfl)) (fun _ _ _ _ _ => dts_nil) (fun _ _ _ _ _ => (de_mod (de_callT call_int1 cd_int rfl (m_int C) rfl (da_cons (de_add (de_add (de_var (pe_var (i := 7) rfl (.inl rfl))) de_int) (de_var (pe_var (i := 5) rfl (.inr (.inl rfl))))) da_nil)) (de_var (pe_var (i := 1) rfl (.inr (.inl rfl))))))) da_nil)))) (dss_one (ds_if (dt_cm (cm_eq (hr).units) (de_var (pe_var (i := 4) rfl (.inl rfl))) de_int rfl) (dss_one (ds_append (pe_var (i := 2) rfl (.inl rfl)) (de_callT call_tuple_ofZ cd_tupOf rfl (m_tuple C) rfl (da_cons (de_lcN (own := [("_law_s", 7)]) rfl rfl sc__law_tables.nd (di_rg1 rfl (m_range C) (da_cons (de_var (pe_var (i := 1) rfl (.inr (.inl rfl)))) da_nil)) (blkOk_by (by kernel_rfl)) (fun _ _ _ _ _ => (dg_name sc__law_tables.nd rfl (.inl rfl) rfl)) (fun _ _ _ _ _ => dts_nil) (fun _ _ _ _ _ => (de_callB (call_min2 rfl) cd_min2 rfl (m_min C) rfl (da_cons (de_sub (de_var (pe_var (i := 1) rfl (.inr (.inl rfl)))) de_int) (da_cons (de_add (de_var (pe_var (i := 7) rfl (.inl rfl))) de_int) da_nil))))) da_nil)))) (dss_one (ds_if (dt_cm (cm_eq (hr).units) (de_var (pe_var (i := 4) rfl (.inl rfl))) de_int rfl) (dss_one (ds_append (pe_var (i := 2) rfl (.inl rfl)) (de_callT call_tuple_ofZ cd_tupOf rfl (m_tuple C) rfl (da_cons (de_lcN (own := [("_law_s", 7)]) rfl rfl sc__law_tables.nd (di_rg1 rfl (m_range C) (da_cons (de_var (pe_var (i := 1) rfl (.inr (.inl rfl)))) da_nil)) (blkOk_by (by kernel_rfl)) (fun _ _ _ _ _ => (dg_name sc__law_tables.nd rfl (.inl rfl) rfl)) (fun _ _ _ _ _ => dts_nil) (fun _ _ _ _ _ => (de_var (pe_var (i := 5) rfl (.inr (.inl rfl)))))) da_nil)))) (dss_one (ds_if (dt_cm (cm_eq (hr).units) (de_var (pe_var (i := 4) rfl (.inl rfl))) de_int rfl) (dss_cons (ds_set sc__law_tables.nd rfl (.inr rfl) rfl (de_of_do (do_callN (ok__law_take C) rfl hg (hr.mono (by decide)) rfl (m__law_take C) (fD__law_take C).kp (b__law_take C) .nil (fun _ => rfl) hx (dx_io (pe_var (i := 0) rfl (.inr (.inl rfl))) (dx_cons (de_var (pe_var (i := 1) rfl (.inr (.inl rfl)))) dx_nil)))))
    (dss_one (ds_append (pe_var (i := 2) rfl (.inl rfl)) (de_callT call_tuple_ofZ cd_tupOf rfl (m_tuple C) rfl (da_cons (de_lcN (own := [("_law_s", 7)]) rfl rfl sc__law_tables.nd (di_rg1 rfl (m_range C) (da_cons (de_var (pe_var (i := 1) rfl (.inr (.inl rfl)))) da_nil)) (blkOk_by (by kernel_rfl)) (fun _ _ _ _ _ => (dg_name sc__law_tables.nd rfl (.inl rfl) rfl)) (fun _ _ _ _ _ => dts_nil) (fun _ _ _ _ _ => (de_if (dt_cm (cm_eq (hr).units) (de_var (pe_var (i := 7) rfl (.inl rfl))) (de_var (pe_var (i := 5) rfl (.inr (.inl rfl)))) rfl) (de_var (pe_var (i := 6) rfl (.inr (.inl rfl)))) (de_if (dt_cm (cm_eq (hr).units) (de_var (pe_var (i := 7) rfl (.inl rfl))) (de_var (pe_var (i := 6) rfl (.inr (.inl rfl)))) rfl) (de_var (pe_var (i := 5) rfl (.inr (.inl rfl)))) (de_var (pe_var (i := 7) rfl (.inl rfl))))))) da_nil))))) (dss_one (ds_append (pe_var (i := 2) rfl (.inl rfl)) (de_callT call_tuple_ofZ cd_tupOf rfl (m_tuple C) rfl (da_cons (de_lcN (own := [("_law_s", 7)]) rfl rfl sc__law_tables.nd (di_rg1 rfl (m_range C) (da_cons (de_var (pe_var (i := 1) rfl (.inr (.inl rfl)))) da_nil)) (blkOk_by (by kernel_rfl)) (fun _ _ _ _ _ => (dg_name sc__law_tables.nd rfl (.inl rfl) rfl)) (fun _ _ _ _ _ => dts_nil) (fun _ _ _ _ _ => (de_of_do (do_callN (ok__law_take C) rfl hg (hr.mono (by decide)) rfl (m__law_take C) (fD__law_take C).kp (b__law_take C) .nil (fun _ => rfl) (fun _ => passNo) (dx_io (pe_var (i := 0) rfl (.inr (.inl rfl))) (dx_cons (de_var (pe_var (i := 1) rfl (.inr (.inl rfl)))) dx_nil)))))) da_nil))))))))))))))
    (dss_one (ds_ret (de_varF (pe_var (i := 2) rfl (.inl rfl)))))))
def S__law_tables : List EV → Out EV := fnS 1 8 Pr__law_tables F__law_tables
theorem ok__law_tables (C : Cfx cfg K mg base) : FnG cfg.prog w K mg base 3 (He.fAd K ("_law_tables", none)) (fdOf K ("_law_tables", none)) ["_law_box_here"] S__law_tables :=
  fnG_ofC (fD__law_tables C) sc__law_tables (by decide) fun A outer s H E hg hr => d__law_tables C A outer s H E hg hr
def F_is_integer : MS := (retS (andV (onL gIsi (consM (rd 0) (consM (cst (.ty "int")) nil0))) (un1 gNot (onL gIsi (consM (rd 0) (consM (cst (.ty "bool")) nil0))))))
theorem d_is_integer (C : Cfx cfg K mg base) (A : Around) (outer : List Env) (s : Shared) (H : Hp) (E : XK) (hg : A.guards = some []) (hr : Room 0 (A.deeper (envOfC "is_integer" (defScope s_is_integer) s.heap.objs.size (He.fAd K ("is_integer", none)) (.ref (He.codeOf K ("is_integer", none)))))) :
    DSs (cxOf (CX cfg.prog w) cfg.prog w K mg base N_is_integer "is_integer" (defScope s_is_integer) (He.fAd K ("is_integer", none)) (.ref (He.codeOf K ("is_integer", none))) A outer s H E) (WofE E) Pn (defBody s_is_integer) F_is_integer := by
  have tk : Takes (cxOf (CX cfg.prog w) cfg.prog w K mg base N_is_integer "is_integer" (defScope s_is_integer) (He.fAd K ("is_integer", none)) (.ref (He.codeOf K ("is_integer", none))) A outer s H E) (WofE E) := takes_of rfl rfl rfl rfl
  have hx := fun σ => passAt tk σ
  have hp := passes_of (X := cxOf (CX cfg.prog w) cfg.prog w K mg base N_is_integer "is_integer" (defScope s_is_integer) (He.fAd K ("is_integer", none)) (.ref (He.codeOf K ("is_integer", none))) A outer s H E) rfl
  unfold F_is_integer
  exact (dss_one (ds_ret (de_and (de_callB call_isiU cd_isi rfl (m_isinstance C) rfl (da_cons (de_var (pe_var (i := 0) rfl (.inl rfl))) (da_cons (de_ty rfl (m_int C) rfl) da_nil))) (de_one (de_not (de_callB call_isiU cd_isi rfl (m_isinstance C) rfl (da_cons (de_var (pe_var (i := 0) rfl (.inl rfl))) (da_cons (de_ty rfl (m_bool C) rfl) da_nil))))))))
def S_is_integer : List EV → Out EV := fnS 1 1 Pn F_is_integer
theorem ok_is_integer (C : Cfx cfg K mg base) : FnG cfg.prog w K mg base 1 (He.fAd K ("is_integer", none)) (fdOf K ("is_integer", none)) ["value"] S_is_integer :=
  fnG_ofC (fD_is_integer C) sc_is_integer (by decide) fun A outer s H E hg hr => d_is_integer C A outer s H E hg hr
def F_is_number : MS := (retS (andV (frzM (callF 1 S_is_integer [] (consD (rd 0) nilX))) (bin2 gGe (rd 0) (cst (.int 0)))))
theorem d_is_number (C : Cfx cfg K mg base) (A : Around) (outer : List Env) (s : Shared) (H : Hp) (E : XK) (hg : A.guards = some []) (hr : Room 1 (A.deeper (envOfC "is_number" (defScope s_is_number) s.heap.objs.size (He.fAd K ("is_number", none)) (.ref (He.codeOf K ("is_number", none)))))) :
    DSs (cxOf (CX cfg.prog w) cfg.prog w K mg base N_is_number "is_number" (defScope s_is_number) (He.fAd K ("is_number", none)) (.ref (He.codeOf K ("is_number", none))) A outer s H E) (WofE E) Pn (defBody s_is_number) F_is_number := by
  have tk : Takes (cxOf (CX cfg.prog w) cfg.prog w K mg base N_is_number "is_number" (defScope s_is_number) (He.fAd K ("is_number", none)) (.ref (He.codeOf K ("is_number", none))) A outer s H E) (WofE E) := takes_of rfl rfl rfl rfl
  have hx := fun σ => passAt tk σ
  have hp := passes_of (X := cxOf (CX cfg.prog w) cfg.prog w K mg base N_is_number "is_number" (defScope s_is_number) (He.fAd K ("is_number", none)) (.ref (He.codeOf K ("is_number", none))) A outer s H E) rfl
  unfold F_is_number
  exact (dss_one (ds_ret (de_and (de_of_do (do_callN (ok_is_integer C) rfl hg (hr.mono (by decide)) rfl (m_is_integer C) (fD_is_integer C).kp (b_is_integer C) .nil (fun _ => rfl) hx (dx_cons (de_var (pe_var (i := 0) rfl (.inl rfl))) dx_nil))) (de_one (de_cm cm_ge (de_var (pe_var (i := 0) rfl (.inl rfl))) de_int rfl)))))
def S_is_number : List EV → Out EV := fnS 1 1 Pn F_is_number
theorem ok_is_number (C : Cfx cfg K mg base) : FnG cfg.prog w K mg base 2 (He.fAd K ("is_number", none)) (fdOf K ("is_number", none)) ["value"] S_is_number :=
  fnG_ofC (fD_is_number C) sc_is_number (by decide) fun A outer s H E hg hr => d_is_number C A outer s H E hg hr
def F_is_below : MS := (retS (andV (frzM (callF 1 S_is_number [] (consD (rd 0) nilX))) (bin2 gLt (rd 0) (rd 1))))
theorem d_is_below (C : Cfx cfg K mg base) (A : Around) (outer : List Env) (s : Shared) (H : Hp) (E : XK) (hg : A.guards = some []) (hr : Room 2 (A.deeper (envOfC "is_below" (defScope s_is_below) s.heap.objs.size (He.fAd K ("is_below", none)) (.ref (He.codeOf K ("is_below", none)))))) :
    DSs (cxOf (CX cfg.prog w) cfg.prog w K mg base N_is_below "is_below" (defScope s_is_below) (He.fAd K ("is_below", none)) (.ref (He.codeOf K ("is_below", none))) A outer s H E) (WofE E) Pn (defBody s_is_below) F_is_below := by
  have tk : Takes (cxOf (CX cfg.prog w) cfg.prog w K mg base N_is_below "is_below" (defScope s_is_below) (He.fAd K ("is_below", none)) (.ref (He.codeOf K ("is_below", none))) A outer s H E) (WofE E) := takes_of rfl rfl rfl rfl
  have hx := fun σ => passAt tk σ
  have hp := passes_of (X := cxOf (CX cfg.prog w) cfg.prog w K mg base N_is_below "is_below" (defScope s_is_below) (He.fAd K ("is_below", none)) (.ref (He.codeOf K ("is_below", none))) A outer s H E) rfl
  unfold F_is_below
  exact (dss_one (ds_ret (de_and (de_of_do (do_callN (ok_is_number C) rfl hg (hr.mono (by decide)) rfl (m_is_number C) (fD_is_number C).kp (b_is_number C) .nil (fun _ => rfl) hx (dx_cons (de_var (pe_var (i := 0) rfl (.inl rfl))) dx_nil))) (de_one (de_cm cm_lt (de_var (pe_var (i := 0) rfl (.inl rfl))) (de_var (pe_var (i := 1) rfl (.inl rfl))) rfl)))))
def S_is_below : List EV → Out EV := fnS 2 2 Pn F_is_below
theorem ok_is_below (C : Cfx cfg K mg base) : FnG cfg.prog w K mg base 3 (He.fAd K ("is_below", none)) (fdOf K ("is_below", none)) ["value", "most"] S_is_below :=
  fnG_ofC (fD_is_below C) sc_is_below (by decide) fun A outer s H E hg hr => d_is_below C A outer s H E hg hr
def F_need_deed : MS := (seqS (ifS (notT (asB (frzM (callF 2 S_is_below [] (consD (rd 1) (consD (un1 (gFld ocl "deeds") (rd 0)) nilX)))))) (raiseS "NoDeed" "deed" (rd 1)) .nx)
    (retS (rd 1)))
theorem d_need_deed (C : Cfx cfg K mg base) (A : Around) (outer : List Env) (s : Shared) (H : Hp) (E : XK) (hg : A.guards = some []) (hr : Room 3 (A.deeper (envOfC "need_deed" (defScope s_need_deed) s.heap.objs.size (He.fAd K ("need_deed", none)) (.ref (He.codeOf K ("need_deed", none)))))) :
    DSs (cxOf (CX cfg.prog w) cfg.prog w K mg base N_need_deed "need_deed" (defScope s_need_deed) (He.fAd K ("need_deed", none)) (.ref (He.codeOf K ("need_deed", none))) A outer s H E) (WofE E) Pn (defBody s_need_deed) F_need_deed := by
  have tk : Takes (cxOf (CX cfg.prog w) cfg.prog w K mg base N_need_deed "need_deed" (defScope s_need_deed) (He.fAd K ("need_deed", none)) (.ref (He.codeOf K ("need_deed", none))) A outer s H E) (WofE E) := takes_of rfl rfl rfl rfl
  have hx := fun σ => passAt tk σ
  have hp := passes_of (X := cxOf (CX cfg.prog w) cfg.prog w K mg base N_need_deed "need_deed" (defScope s_need_deed) (He.fAd K ("need_deed", none)) (.ref (He.codeOf K ("need_deed", none))) A outer s H E) rfl
  unfold F_need_deed
  exact (dss_cons (ds_if (dt_not (dt_val (de_of_do (do_callN (ok_is_below C) rfl hg (hr.mono (by decide)) rfl (m_is_below C) (fD_is_below C).kp (b_is_below C) .nil (fun _ => rfl) hx (dx_cons (de_var (pe_var (i := 1) rfl (.inl rfl))) (dx_cons (de_fld (C.flds ocl_deeds_ok) (de_var (pe_var (i := 0) rfl (.inl rfl)))) dx_nil)))))) (dss_one (ds_raise rfl tk (x_NoDeed C) (m_super C) (hr.mono (by decide)) rfl (m_NoDeed C) (de_var (pe_var (i := 1) rfl (.inl rfl))))) dss_nil)
    (dss_one (ds_ret (de_var (pe_var (i := 1) rfl (.inl rfl))))))
def S_need_deed : List EV → Out EV := fnS 2 2 Pn F_need_deed
theorem ok_need_deed (C : Cfx cfg K mg base) : FnG cfg.prog w K mg base 4 (He.fAd K ("need_deed", none)) (fdOf K ("need_deed", none)) ["machine", "deed"] S_need_deed :=
  fnG_ofC (fD_need_deed C) sc_need_deed (by decide) fun A outer s H E hg hr => d_need_deed C A outer s H E hg hr
def F_moved_paths : MS := (retS (onL gTupOf (consM (lstM (bnd (seqI (rd 1)) (lcB [2, 3] (gsTup 2 (gsCons (put 2) (gsCons (put 3) nilG))) trueT (onL gTup (consM (rd 2) (consM (bin2 gIx (rd 0) (rd 3)) nil0)))))) nil0)))
theorem d_moved_paths (C : Cfx cfg K mg base) (A : Around) (outer : List Env) (s : Shared) (H : Hp) (E : XK) (hg : A.guards = some []) (hr : Room 0 (A.deeper (envOfC "moved_paths" (defScope s_moved_paths) s.heap.objs.size (He.fAd K ("moved_paths", none)) (.ref (He.codeOf K ("moved_paths", none)))))) :
    DSs (cxOf (CX cfg.prog w) cfg.prog w K mg base N_moved_paths "moved_paths" (defScope s_moved_paths) (He.fAd K ("moved_paths", none)) (.ref (He.codeOf K ("moved_paths", none))) A outer s H E) (WofE E) Pn (defBody s_moved_paths) F_moved_paths := by
  have tk : Takes (cxOf (CX cfg.prog w) cfg.prog w K mg base N_moved_paths "moved_paths" (defScope s_moved_paths) (He.fAd K ("moved_paths", none)) (.ref (He.codeOf K ("moved_paths", none))) A outer s H E) (WofE E) := takes_of rfl rfl rfl rfl
  have hx := fun σ => passAt tk σ
  have hp := passes_of (X := cxOf (CX cfg.prog w) cfg.prog w K mg base N_moved_paths "moved_paths" (defScope s_moved_paths) (He.fAd K ("moved_paths", none)) (.ref (He.codeOf K ("moved_paths", none))) A outer s H E) rfl
  unfold F_moved_paths
  exact (dss_one (ds_ret (de_callT call_tuple_ofZ cd_tupOf rfl (m_tuple C) rfl (da_cons (de_lcN (own := [("mark", 2), ("here", 3)]) rfl rfl sc_moved_paths.nd (di_seq (de_var (pe_var (i := 1) rfl (.inl rfl)))) (blkOk_by (by kernel_rfl)) (fun _ _ _ _ _ => (dg_tup rfl (dgs_cons (dg_name sc_moved_paths.nd rfl (.inl rfl) rfl) (dgs_cons (dg_name sc_moved_paths.nd rfl (.inl rfl) rfl) dgs_nil)))) (fun _ _ _ _ _ => dts_nil) (fun _ _ _ _ _ => (de_tup (da_cons (de_var (pe_var (i := 2) rfl (.inl rfl))) (da_cons (de_ix (de_var (pe_var (i := 0) rfl (.inr (.inl rfl)))) (de_var (pe_var (i := 3) rfl (.inl rfl))) (fun _ _ => rfl)) da_nil))))) da_nil))))
def S_moved_paths : List EV → Out EV := fnS 2 4 Pn F_moved_paths
theorem ok_moved_paths (C : Cfx cfg K mg base) : FnG cfg.prog w K mg base 1 (He.fAd K ("moved_paths", none)) (fdOf K ("moved_paths", none)) ["table", "paths"] S_moved_paths :=
  fnG_ofC (fD_moved_paths C) sc_moved_paths (by decide) fun A outer s H E hg hr => d_moved_paths C A outer s H E hg hr
def F_with_return : MS := (seqS (forS (enI (rd 1)) (gsTup 2 (gsCons (put 2) (gsCons (gsTup 2 (gsCons (put 3) (gsCons (put 4) nilG))) nilG))) (ifS (asB (bin2 gEq (rd 4) (rd 0))) (retS (bin2 gAdd (bin2 gAdd (onL gTup (consM (onL gTup (consM (rd 3) (consM (rd 0) nil0))) nil0)) (slM (rd 1) noneP (asI (rd 2)))) (slM (rd 1) (asI (bin2 gAdd (rd 2) (cst (.int 1)))) noneP))) .nx))
    (retS (bin2 gAdd (onL gTup (consM (onL gTup (consM (onL gLen (consM (rd 1) nil0)) (consM (rd 0) nil0))) nil0)) (rd 1))))
theorem d_with_return (C : Cfx cfg K mg base) (A : Around) (outer : List Env) (s : Shared) (H : Hp) (E : XK) (hg : A.guards = some []) (hr : Room 0 (A.deeper (envOfC "with_return" (defScope s_with_return) s.heap.objs.size (He.fAd K ("with_return", none)) (.ref (He.codeOf K ("with_return", none)))))) :
    DSs (cxOf (CX cfg.prog w) cfg.prog w K mg base N_with_return "with_return" (defScope s_with_return) (He.fAd K ("with_return", none)) (.ref (He.codeOf K ("with_return", none))) A outer s H E) (WofE E) Pn (defBody s_with_return) F_with_return := by
  have tk : Takes (cxOf (CX cfg.prog w) cfg.prog w K mg base N_with_return "with_return" (defScope s_with_return) (He.fAd K ("with_return", none)) (.ref (He.codeOf K ("with_return", none))) A outer s H E) (WofE E) := takes_of rfl rfl rfl rfl
  have hx := fun σ => passAt tk σ
  have hp := passes_of (X := cxOf (CX cfg.prog w) cfg.prog w K mg base N_with_return "with_return" (defScope s_with_return) (He.fAd K ("with_return", none)) (.ref (He.codeOf K ("with_return", none))) A outer s H E) rfl
  unfold F_with_return
  exact (dss_cons (ds_for hp rfl (di_enum rfl (m_enumerate C) (de_var (pe_var (i := 1) rfl (.inl rfl)))) (dg_tup rfl (dgs_cons (dg_name sc_with_return.nd rfl (.inl rfl) rfl) (dgs_cons (dg_tup rfl (dgs_cons (dg_name sc_with_return.nd rfl (.inl rfl) rfl) (dgs_cons (dg_name sc_with_return.nd rfl (.inl rfl) rfl) dgs_nil))) dgs_nil))) (dss_one (ds_if (dt_cm (cm_eq (hr).units) (de_var (pe_var (i := 4) rfl (.inl rfl))) (de_var (pe_var (i := 0) rfl (.inl rfl))) rfl) (dss_one (ds_ret (de_add (de_add (de_tup (da_cons (de_tup (da_cons (de_var (pe_var (i := 3) rfl (.inl rfl))) (da_cons (de_var (pe_var (i := 0) rfl (.inl rfl))) da_nil))) da_nil)) (de_sl (de_var (pe_var (i := 1) rfl (.inl rfl))) dp_none (dp_some (de_var (pe_var (i := 2) rfl (.inl rfl)))))) (de_sl (de_var (pe_var (i := 1) rfl (.inl rfl))) (dp_some (de_add (de_var (pe_var (i := 2) rfl (.inl rfl))) de_int)) dp_none)))) dss_nil)))
    (dss_one (ds_ret (de_add (de_tup (da_cons (de_tup (da_cons (de_callB call_len cd_len rfl (m_len C) rfl (da_cons (de_var (pe_var (i := 1) rfl (.inl rfl))) da_nil)) (da_cons (de_var (pe_var (i := 0) rfl (.inl rfl))) da_nil))) da_nil)) (de_var (pe_var (i := 1) rfl (.inl rfl)))))))
def S_with_return : List EV → Out EV := fnS 2 5 Pn F_with_return
theorem ok_with_return (C : Cfx cfg K mg base) : FnG cfg.prog w K mg base 1 (He.fAd K ("with_return", none)) (fdOf K ("with_return", none)) ["state", "paths"] S_with_return :=
  fnG_ofC (fD_with_return C) sc_with_return (by decide) fun A outer s H E hg hr => d_with_return C A outer s H E hg hr
abbrev Pr_LogNote_put : Nat → Bool := (fun i => i == 0)
def F_LogNote_put : MS := (seqS (setS 2 (bin2 gIx (un1 (gFld ocl "tables") (pkFld ocl 0 "machine")) (frzM (callF 2 S_need_deed [] (consD (pkFld ocl 0 "machine") (consD (rd 1) nilX))))))
    (seqS (fldS ocl 0 "possible" (onL gTupOf (consM (onL gSrt (consM (keysM (consO (dctO (bnd (seqI (pkFld ocl 0 "possible")) (dcB [3] (put 3) trueT (bin2 gIx (rd 2) (rd 3)) (cst (.bl true))))) nilO)) nil0)) nil0)))
    (seqS (setO 4 (lstO (bnd (seqI (pkFld ocl 0 "rows")) (lcB [5] (put 5) trueT (frzM (callF 2 S_moved_paths [] (consD (rd 2) (consD (rd 5) nilX))))))))
    (seqS (forS (seqI (pkFld ocl 0 "possible")) (put 3) (setIx 4 (frzM (callF 2 S_with_return [] (consD (rd 3) (consD (pkIx 4 (rd 3)) nilX)))) (rd 3)))
    (seqS (fldS ocl 0 "rows" (onL gTupOf (consM (rdF 4) nil0)))
    (seqS (fldAug ocl 0 "age" (cst (.int 1)))
    (retS (pkFld ocl 0 "age"))))))))
theorem d_LogNote_put (C : Cfx cfg K mg base) (A : Around) (outer : List Env) (s : Shared) (H : Hp) (E : XK) (hg : A.guards = some []) (hr : Room 4 (A.deeper (envOfC "LogNote.put" (defScope s_LogNote_put) s.heap.objs.size (He.fAd K ("LogNote", some "put")) (.ref (He.codeOf K ("LogNote", some "put")))))) :
    DSs (cxOf (CX cfg.prog w) cfg.prog w K mg base N_LogNote_put "LogNote.put" (defScope s_LogNote_put) (He.fAd K ("LogNote", some "put")) (.ref (He.codeOf K ("LogNote", some "put"))) A outer s H E) (WofE E) Pr_LogNote_put (defBody s_LogNote_put) F_LogNote_put := by
  have tk : Takes (cxOf (CX cfg.prog w) cfg.prog w K mg base N_LogNote_put "LogNote.put" (defScope s_LogNote_put) (He.fAd K ("LogNote", some "put")) (.ref (He.codeOf K ("LogNote", some "put"))) A outer s H E) (WofE E) := takes_of rfl rfl rfl rfl
  have hx := fun σ => passAt tk σ
  have hp := passes_of (X := cxOf (CX cfg.prog w) cfg.prog w K mg base N_LogNote_put "LogNote.put" (defScope s_LogNote_put) (He.fAd K ("LogNote", some "put")) (.ref (He.codeOf K ("LogNote", some "put"))) A outer s H E) rfl
  unfold F_LogNote_put
  exact (dss_cons (ds_set sc_LogNote_put.nd rfl (.inr rfl) rfl (de_ix (de_fld (C.flds ocl_tables_ok) (de_pkFld (C.flds ocl_machine_ok) (pe_var (i := 0) rfl (.inl rfl)))) (de_of_do (do_callN (ok_need_deed C) rfl hg (hr.mono (by decide)) rfl (m_need_deed C) (fD_need_deed C).kp (b_need_deed C) .nil (fun _ => rfl) hx (dx_cons (de_pkFld (C.flds ocl_machine_ok) (pe_var (i := 0) rfl (.inl rfl))) (dx_cons (de_var (pe_var (i := 1) rfl (.inl rfl))) dx_nil)))) (fun _ _ => rfl)))
    (dss_cons (ds_fld (C.flds ocl_possible_ok) (pe_var (i := 0) rfl (.inl rfl)) (de_callT call_tuple_ofZ cd_tupOf rfl (m_tuple C) rfl (da_cons (de_callB cr_sortedI cd_srt rfl (m_sorted C) rfl (da_cons (de_listOd rfl rfl (m_list C) rfl (dos_cons (do_dcN (own := [("state", 3)]) rfl rfl sc_LogNote_put.nd (di_seq (de_pkFld (C.flds ocl_possible_ok) (pe_var (i := 0) rfl (.inl rfl)))) (blkOk_by (by kernel_rfl)) (fun _ _ _ _ _ => (dg_name sc_LogNote_put.nd rfl (.inl rfl) rfl)) (fun _ _ _ _ _ => dts_nil) (fun _ _ _ _ _ => (de_ix (de_var (pe_var (i := 2) rfl (.inr (.inl rfl)))) (de_var (pe_var (i := 3) rfl (.inl rfl))) (fun _ _ => rfl))) (fun _ _ _ _ _ => de_bl)) dos_nil)) da_nil)) da_nil)))
    (dss_cons (ds_setLcO (own := [("paths", 5)]) rfl rfl sc_LogNote_put.nd rfl rfl rfl (sw_true rfl rfl rfl rfl) (di_seq (de_pkFld (C.flds ocl_rows_ok) (pe_var (i := 0) rfl (.inl rfl)))) (blkOk_by (by kernel_rfl)) (fun _ _ _ _ _ => (dg_name sc_LogNote_put.nd rfl (.inl rfl) rfl)) (fun _ _ _ _ _ => dts_nil) (fun _ _ _ _ _ => (de_of_do (do_callN (ok_moved_paths C) rfl hg (hr.mono (by decide)) rfl (m_moved_paths C) (fD_moved_paths C).kp (b_moved_paths C) .nil (fun _ => rfl) (fun _ => passNo) (dx_cons (de_var (pe_var (i := 2) rfl (.inr (.inl rfl)))) (dx_cons (de_var (pe_var (i := 5) rfl (.inl rfl))) dx_nil))))))
    (dss_cons (ds_for hp rfl (di_seq (de_pkFld (C.flds ocl_possible_ok) (pe_var (i := 0) rfl (.inl rfl)))) (dg_name sc_LogNote_put.nd rfl (.inl rfl) rfl) (dss_one (ds_setIx (pe_var (i := 4) rfl (.inl rfl)) (de_of_do (do_callN (ok_with_return C) rfl hg (hr.mono (by decide)) rfl (m_with_return C) (fD_with_return C).kp (b_with_return C) .nil (fun _ => rfl) hx (dx_cons (de_var (pe_var (i := 3) rfl (.inl rfl))) (dx_cons (de_pkIx (pe_var (i := 4) rfl (.inl rfl)) (de_var (pe_var (i := 3) rfl (.inl rfl))) (fun _ _ => rfl)) dx_nil)))) (de_var (pe_var (i := 3) rfl (.inl rfl))))))
    (dss_cons (ds_fld (C.flds ocl_rows_ok) (pe_var (i := 0) rfl (.inl rfl)) (de_callT call_tuple_ofZ cd_tupOf rfl (m_tuple C) rfl (da_cons (de_varF (pe_var (i := 4) rfl (.inl rfl))) da_nil)))
    (dss_cons (ds_fldaug (C.flds ocl_age_ok) (pe_var (i := 0) rfl (.inl rfl)) de_int)
    (dss_one (ds_ret (de_pkFld (C.flds ocl_age_ok) (pe_var (i := 0) rfl (.inl rfl)))))))))))
def S_LogNote_put : List EV → Out EV := fnS 2 6 Pr_LogNote_put F_LogNote_put
theorem ok_LogNote_put (C : Cfx cfg K mg base) : FnG cfg.prog w K mg base 5 (He.fAd K ("LogNote", some "put")) (fdOf K ("LogNote", some "put")) ["self", "deed"] S_LogNote_put :=
  fnG_ofC (fD_LogNote_put C) sc_LogNote_put (by decide) fun A outer s H E hg hr => d_LogNote_put C A outer s H E hg hr
abbrev Pr__law_starts : Nat → Bool := (fun i => i == 0)
def F__law_starts : MS := (seqS (ifS (asB (bin2 gGt (frzM (callF 2 S__law_take [] (consI 0 (consD (cst (.int 3)) nilX)))) (cst (.int 0)))) (retS (rgL (one (rd 1)))) .nx)
    (seqS (setS 2 (lstM (bnd (onI gRg1 (consM (rd 1) nil0)) (lcB [3] (put 3) (asB (bin2 gEq (frzM (callF 2 S__law_take [] (consI 0 (consD (cst (.int 2)) nilX)))) (cst (.int 0)))) (rd 3)))))
    (retS (ifE (asB (bin2 gNe (rd 2) (onL gLst nil0))) (rd 2) (onL gLst (consM (frzM (callF 2 S__law_take [] (consI 0 (consD (rd 1) nilX)))) nil0))))))
theorem d__law_starts (C : Cfx cfg K mg base) (A : Around) (outer : List Env) (s : Shared) (H : Hp) (E : XK) (hg : A.guards = some []) (hr : Room 1 (A.deeper (envOfC "_law_starts" (defScope s__law_starts) s.heap.objs.size (He.fAd K ("_law_starts", none)) (.ref (He.codeOf K ("_law_starts", none)))))) :
    DSs (cxOf (CX cfg.prog w) cfg.prog w K mg base N__law_starts "_law_starts" (defScope s__law_starts) (He.fAd K ("_law_starts", none)) (.ref (He.codeOf K ("_law_starts", none))) A outer s H E) (WofE E) Pr__law_starts (defBody s__law_starts) F__law_starts := by
  have tk : Takes (cxOf (CX cfg.prog w) cfg.prog w K mg base N__law_starts "_law_starts" (defScope s__law_starts) (He.fAd K ("_law_starts", none)) (.ref (He.codeOf K ("_law_starts", none))) A outer s H E) (WofE E) := takes_of rfl rfl rfl rfl
  have hx := fun σ => passAt tk σ
  have hp := passes_of (X := cxOf (CX cfg.prog w) cfg.prog w K mg base N__law_starts "_law_starts" (defScope s__law_starts) (He.fAd K ("_law_starts", none)) (.ref (He.codeOf K ("_law_starts", none))) A outer s H E) rfl
  unfold F__law_starts
  exact (dss_cons (ds_if (dt_cm cm_gt (de_of_do (do_callN (ok__law_take C) rfl hg (hr.mono (by decide)) rfl (m__law_take C) (fD__law_take C).kp (b__law_take C) .nil (fun _ => rfl) hx (dx_io (pe_var (i := 0) rfl (.inr (.inl rfl))) (dx_cons de_int dx_nil)))) de_int rfl) (dss_one (ds_ret (de_lrg1 rfl rfl (m_list C) rfl (m_range C) (de_var (pe_var (i := 1) rfl (.inl rfl)))))) dss_nil)
    (dss_cons (ds_setLc (own := [("_law_s", 3)]) rfl rfl sc__law_starts.nd rfl rfl rfl (sw_true rfl rfl rfl rfl) (di_rg1 rfl (m_range C) (da_cons (de_var (pe_var (i := 1) rfl (.inl rfl))) da_nil)) (blkOk_by (by kernel_rfl)) (fun _ _ _ _ _ => (dg_name sc__law_starts.nd rfl (.inl rfl) rfl)) (fun _ _ _ _ _ => (dts_one (dt_cm (cm_eq (hr).units) (de_of_do (do_callN (ok__law_take C) rfl hg (hr.mono (by decide)) rfl (m__law_take C) (fD__law_take C).kp (b__law_take C) .nil (fun _ => rfl) (fun _ => passNo) (dx_io (pe_var (i := 0) rfl (.inr (.inl rfl))) (dx_cons de_int dx_nil)))) de_int rfl))) (fun _ _ _ _ _ => (de_var (pe_var (i := 3) rfl (.inl rfl)))))
    (dss_one (ds_ret (de_if (dt_cm (cm_ne (hr).units) (de_var (pe_var (i := 2) rfl (.inl rfl))) (de_lst da_nil) rfl) (de_var (pe_var (i := 2) rfl (.inl rfl))) (de_lst (da_cons (de_of_do (do_callN (ok__law_take C) rfl hg (hr.mono (by decide)) rfl (m__law_take C) (fD__law_take C).kp (b__law_take C) .nil (fun _ => rfl) hx (dx_io (pe_var (i := 0) rfl (.inr (.inl rfl))) (dx_cons (de_var (pe_var (i := 1) rfl (.inl rfl))) dx_nil)))) da_nil)))))))
def S__law_starts : List EV → Out EV := fnS 2 4 Pr__law_starts F__law_starts
theorem ok__law_starts (C : Cfx cfg K mg base) : FnG cfg.prog w K mg base 2 (He.fAd K ("_law_starts", none)) (fdOf K ("_law_starts", none)) ["_law_box_here", "_law_many"] S__law_starts :=
  fnG_ofC (fD__law_starts C) sc__law_starts (by decide) fun A outer s H E hg hr => d__law_starts C A outer s H E hg hr
def F_is_sequence : MS := (retS (onL gIsi (consM (rd 0) (consM (onL gTup (consM (cst (.ty "list")) (consM (cst (.ty "tuple")) nil0))) nil0))))
theorem d_is_sequence (C : Cfx cfg K mg base) (A : Around) (outer : List Env) (s : Shared) (H : Hp) (E : XK) (hg : A.guards = some []) (hr : Room 0 (A.deeper (envOfC "is_sequence" (defScope s_is_sequence) s.heap.objs.size (He.fAd K ("is_sequence", none)) (.ref (He.codeOf K ("is_sequence", none)))))) :
    DSs (cxOf (CX cfg.prog w) cfg.prog w K mg base N_is_sequence "is_sequence" (defScope s_is_sequence) (He.fAd K ("is_sequence", none)) (.ref (He.codeOf K ("is_sequence", none))) A outer s H E) (WofE E) Pn (defBody s_is_sequence) F_is_sequence := by
  have tk : Takes (cxOf (CX cfg.prog w) cfg.prog w K mg base N_is_sequence "is_sequence" (defScope s_is_sequence) (He.fAd K ("is_sequence", none)) (.ref (He.codeOf K ("is_sequence", none))) A outer s H E) (WofE E) := takes_of rfl rfl rfl rfl
  have hx := fun σ => passAt tk σ
  have hp := passes_of (X := cxOf (CX cfg.prog w) cfg.prog w K mg base N_is_sequence "is_sequence" (defScope s_is_sequence) (He.fAd K ("is_sequence", none)) (.ref (He.codeOf K ("is_sequence", none))) A outer s H E) rfl
  unfold F_is_sequence
  exact (dss_one (ds_ret (de_callB call_isiU cd_isi rfl (m_isinstance C) rfl (da_cons (de_var (pe_var (i := 0) rfl (.inl rfl))) (da_cons (de_tup (da_cons (de_ty rfl (m_list C) rfl) (da_cons (de_ty rfl (m_tuple C) rfl) da_nil))) da_nil)))))
def S_is_sequence : List EV → Out EV := fnS 1 1 Pn F_is_sequence
theorem ok_is_sequence (C : Cfx cfg K mg base) : FnG cfg.prog w K mg base 1 (He.fAd K ("is_sequence", none)) (fdOf K ("is_sequence", none)) ["value"] S_is_sequence :=
  fnG_ofC (fD_is_sequence C) sc_is_sequence (by decide) fun A outer s H E hg hr => d_is_sequence C A outer s H E hg hr
def F_is_ascending : MS := (seqS (ifS (orT (notT (asB (frzM (callF 1 S_is_sequence [] (consD (rd 0) nilX))))) (orT (asB (bin2 gEq (onL gLen (consM (rd 0) nil0)) (cst (.int 0)))) (notT (asB (onL gAll (consM (lstM (bnd (seqI (rd 0)) (lcB [4] (put 4) trueT (frzM (callF 2 S_is_below [] (consD (rd 4) (consD (rd 1) nilX))))))) nil0)))))) (retS (cst (.bl false))) .nx)
    (retS (onL gAll (consM (lstM (bnd (onI gZip (consM (rd 0) (consM (slM (rd 0) (asI (cst (.int 1))) noneP) nil0))) (lcB [2, 3] (gsTup 2 (gsCons (put 2) (gsCons (put 3) nilG))) trueT (bin2 gLt (rd 2) (rd 3))))) nil0))))
theorem d_is_ascending (C : Cfx cfg K mg base) (A : Around) (outer : List Env) (s : Shared) (H : Hp) (E : XK) (hg : A.guards = some []) (hr : Room 3 (A.deeper (envOfC "is_ascending" (defScope s_is_ascending) s.heap.objs.size (He.fAd K ("is_ascending", none)) (.ref (He.codeOf K ("is_ascending", none)))))) :
    DSs (cxOf (CX cfg.prog w) cfg.prog w K mg base N_is_ascending "is_ascending" (defScope s_is_ascending) (He.fAd K ("is_ascending", none)) (.ref (He.codeOf K ("is_ascending", none))) A outer s H E) (WofE E) Pn (defBody s_is_ascending) F_is_ascending := by
  have tk : Takes (cxOf (CX cfg.prog w) cfg.prog w K mg base N_is_ascending "is_ascending" (defScope s_is_ascending) (He.fAd K ("is_ascending", none)) (.ref (He.codeOf K ("is_ascending", none))) A outer s H E) (WofE E) := takes_of rfl rfl rfl rfl
  have hx := fun σ => passAt tk σ
  have hp := passes_of (X := cxOf (CX cfg.prog w) cfg.prog w K mg base N_is_ascending "is_ascending" (defScope s_is_ascending) (He.fAd K ("is_ascending", none)) (.ref (He.codeOf K ("is_ascending", none))) A outer s H E) rfl
  unfold F_is_ascending
  exact (dss_cons (ds_if (DW.t (dw_or (dt_not (dt_val (de_of_do (do_callN (ok_is_sequence C) rfl hg (hr.mono (by decide)) rfl (m_is_sequence C) (fD_is_sequence C).kp (b_is_sequence C) .nil (fun _ => rfl) hx (dx_cons (de_var (pe_var (i := 0) rfl (.inl rfl))) dx_nil))))) (dw_or (dt_cm (cm_eq (hr).units) (de_callB call_len cd_len rfl (m_len C) rfl (da_cons (de_var (pe_var (i := 0) rfl (.inl rfl))) da_nil)) de_int rfl) (dw_or1 (dt_not (dt_val (de_callB (cr_all rfl) cd_all rfl (m_all C) rfl (da_cons (de_lcN (own := [("number", 4)]) rfl rfl sc_is_ascending.nd (di_seq (de_var (pe_var (i := 0) rfl (.inl rfl)))) (blkOk_by (by kernel_rfl)) (fun _ _ _ _ _ => (dg_name sc_is_ascending.nd rfl (.inl rfl) rfl)) (fun _ _ _ _ _ => dts_nil) (fun _ _ _ _ _ => (de_of_do (do_callN (ok_is_below C) rfl hg (hr.mono (by decide)) rfl (m_is_below C) (fD_is_below C).kp (b_is_below C) .nil (fun _ => rfl) (fun _ => passNo) (dx_cons (de_var (pe_var (i := 4) rfl (.inl rfl))) (dx_cons (de_var (pe_var (i := 1) rfl (.inr (.inl rfl)))) dx_nil)))))) da_nil)))))))) (dss_one (ds_ret de_bl)) dss_nil)
    (dss_one (ds_ret (de_callB (cr_all rfl) cd_all rfl (m_all C) rfl (da_cons (de_lcN (own := [("one", 2), ("other", 3)]) rfl rfl sc_is_ascending.nd (di_zip rfl (m_zip C) (da_cons (de_var (pe_var (i := 0) rfl (.inl rfl))) (da_cons (de_sl (de_var (pe_var (i := 0) rfl (.inl rfl))) (dp_some de_int) dp_none) da_nil))) (blkOk_by (by kernel_rfl)) (fun _ _ _ _ _ => (dg_tup rfl (dgs_cons (dg_name sc_is_ascending.nd rfl (.inl rfl) rfl) (dgs_cons (dg_name sc_is_ascending.nd rfl (.inl rfl) rfl) dgs_nil)))) (fun _ _ _ _ _ => dts_nil) (fun _ _ _ _ _ => (de_cm cm_lt (de_var (pe_var (i := 2) rfl (.inl rfl))) (de_var (pe_var (i := 3) rfl (.inl rfl))) rfl))) da_nil)))))
def S_is_ascending : List EV → Out EV := fnS 2 5 Pn F_is_ascending
theorem ok_is_ascending (C : Cfx cfg K mg base) : FnG cfg.prog w K mg base 4 (He.fAd K ("is_ascending", none)) (fdOf K ("is_ascending", none)) ["value", "most"] S_is_ascending :=
  fnG_ofC (fD_is_ascending C) sc_is_ascending (by decide) fun A outer s H E hg hr => d_is_ascending C A outer s H E hg hr
def F_check_starts : MS := (seqS (ifS (asB (bin2 gIsN (rd 1) (cst .non))) (retS (rgT (one (un1 (gFld ocl "states") (rd 0))))) .nx)
    (seqS (ifS (notT (asB (frzM (callF 2 S_is_ascending [] (consD (rd 1) (consD (un1 (gFld ocl "states") (rd 0)) nilX)))))) (raiseS "Refused" "at" (rd 1)) .nx)
    (retS (onL gTupOf (consM (rd 1) nil0)))))
theorem d_check_starts (C : Cfx cfg K mg base) (A : Around) (outer : List Env) (s : Shared) (H : Hp) (E : XK) (hg : A.guards = some []) (hr : Room 4 (A.deeper (envOfC "check_starts" (defScope s_check_starts) s.heap.objs.size (He.fAd K ("check_starts", none)) (.ref (He.codeOf K ("check_starts", none)))))) :
    DSs (cxOf (CX cfg.prog w) cfg.prog w K mg base N_check_starts "check_starts" (defScope s_check_starts) (He.fAd K ("check_starts", none)) (.ref (He.codeOf K ("check_starts", none))) A outer s H E) (WofE E) Pn (defBody s_check_starts) F_check_starts := by
  have tk : Takes (cxOf (CX cfg.prog w) cfg.prog w K mg base N_check_starts "check_starts" (defScope s_check_starts) (He.fAd K ("check_starts", none)) (.ref (He.codeOf K ("check_starts", none))) A outer s H E) (WofE E) := takes_of rfl rfl rfl rfl
  have hx := fun σ => passAt tk σ
  have hp := passes_of (X := cxOf (CX cfg.prog w) cfg.prog w K mg base N_check_starts "check_starts" (defScope s_check_starts) (He.fAd K ("check_starts", none)) (.ref (He.codeOf K ("check_starts", none))) A outer s H E) rfl
  unfold F_check_starts
  exact (dss_cons (ds_if (dt_cm cm_isN (de_var (pe_var (i := 1) rfl (.inl rfl))) de_non rfl) (dss_one (ds_ret (de_trg1 rfl rfl (m_tuple C) rfl (m_range C) (de_fld (C.flds ocl_states_ok) (de_var (pe_var (i := 0) rfl (.inl rfl))))))) dss_nil)
    (dss_cons (ds_if (dt_not (dt_val (de_of_do (do_callN (ok_is_ascending C) rfl hg (hr.mono (by decide)) rfl (m_is_ascending C) (fD_is_ascending C).kp (b_is_ascending C) .nil (fun _ => rfl) hx (dx_cons (de_var (pe_var (i := 1) rfl (.inl rfl))) (dx_cons (de_fld (C.flds ocl_states_ok) (de_var (pe_var (i := 0) rfl (.inl rfl)))) dx_nil)))))) (dss_one (ds_raise rfl tk (x_Refused C) (m_super C) (hr.mono (by decide)) rfl (m_Refused C) (de_var (pe_var (i := 1) rfl (.inl rfl))))) dss_nil)
    (dss_one (ds_ret (de_callT call_tuple_ofZ cd_tupOf rfl (m_tuple C) rfl (da_cons (de_var (pe_var (i := 1) rfl (.inl rfl))) da_nil))))))
def S_check_starts : List EV → Out EV := fnS 2 2 Pn F_check_starts
theorem ok_check_starts (C : Cfx cfg K mg base) : FnG cfg.prog w K mg base 5 (He.fAd K ("check_starts", none)) (fdOf K ("check_starts", none)) ["machine", "value"] S_check_starts :=
  fnG_ofC (fD_check_starts C) sc_check_starts (by decide) fun A outer s H E hg hr => d_check_starts C A outer s H E hg hr
abbrev Pr_LogNote___init__ : Nat → Bool := (fun i => i == 0)
def F_LogNote___init__ : MS := (seqS (fldS ocl 0 "machine" (rd 1))
    (seqS (fldS ocl 0 "age" (cst (.int 0)))
    (seqS (fldS ocl 0 "possible" (frzM (callF 2 S_check_starts [] (consD (rd 1) (consD (rd 2) nilX)))))
    (fldS ocl 0 "rows" (onL gTupOf (consM (lstM (bnd (onI gRg1 (consM (un1 (gFld ocl "states") (rd 1)) nil0)) (lcB [3] (put 3) trueT (ifE (asB (bin2 gIn (rd 3) (pkFld ocl 0 "possible"))) (onL gTup (consM (onL gTup (consM (cst (.int 0)) (consM (rd 3) nil0))) nil0)) (onL gTup nil0))))) nil0))))))
theorem d_LogNote___init__ (C : Cfx cfg K mg base) (A : Around) (outer : List Env) (s : Shared) (H : Hp) (E : XK) (hg : A.guards = some []) (hr : Room 5 (A.deeper (envOfC "LogNote.__init__" (defScope s_LogNote___init__) s.heap.objs.size (He.fAd K ("LogNote", some "__init__")) (.ref (He.codeOf K ("LogNote", some "__init__")))))) :
    DSs (cxOf (CX cfg.prog w) cfg.prog w K mg base N_LogNote___init__ "LogNote.__init__" (defScope s_LogNote___init__) (He.fAd K ("LogNote", some "__init__")) (.ref (He.codeOf K ("LogNote", some "__init__"))) A outer s H E) (WofE E) Pr_LogNote___init__ (defBody s_LogNote___init__) F_LogNote___init__ := by
  have tk : Takes (cxOf (CX cfg.prog w) cfg.prog w K mg base N_LogNote___init__ "LogNote.__init__" (defScope s_LogNote___init__) (He.fAd K ("LogNote", some "__init__")) (.ref (He.codeOf K ("LogNote", some "__init__"))) A outer s H E) (WofE E) := takes_of rfl rfl rfl rfl
  have hx := fun σ => passAt tk σ
  have hp := passes_of (X := cxOf (CX cfg.prog w) cfg.prog w K mg base N_LogNote___init__ "LogNote.__init__" (defScope s_LogNote___init__) (He.fAd K ("LogNote", some "__init__")) (.ref (He.codeOf K ("LogNote", some "__init__"))) A outer s H E) rfl
  unfold F_LogNote___init__
  exact (dss_cons (ds_fld (C.flds ocl_machine_ok) (pe_var (i := 0) rfl (.inr (.inl rfl))) (de_var (pe_var (i := 1) rfl (.inl rfl))))
    (dss_cons (ds_fld (C.flds ocl_age_ok) (pe_var (i := 0) rfl (.inr (.inl rfl))) de_int)
    (dss_cons (ds_fld (C.flds ocl_possible_ok) (pe_var (i := 0) rfl (.inr (.inl rfl))) (de_of_do (do_callN (ok_check_starts C) rfl hg (hr.mono (by decide)) rfl (m_check_starts C) (fD_check_starts C).kp (b_check_starts C) .nil (fun _ => rfl) hx (dx_cons (de_var (pe_var (i := 1) rfl (.inl rfl))) (dx_cons (de_var (pe_var (i := 2) rfl (.inl rfl))) dx_nil)))))
    (dss_one (ds_fld (C.flds ocl_rows_ok) (pe_var (i := 0) rfl (.inr (.inl rfl))) (de_callT call_tuple_ofZ cd_tupOf rfl (m_tuple C) rfl (da_cons (de_lcN (own := [("state", 3)]) rfl rfl sc_LogNote___init__.nd (di_rg1 rfl (m_range C) (da_cons (de_fld (C.flds ocl_states_ok) (de_var (pe_var (i := 1) rfl (.inl rfl)))) da_nil)) (blkOk_by (by kernel_rfl)) (fun _ _ _ _ _ => (dg_name sc_LogNote___init__.nd rfl (.inl rfl) rfl)) (fun _ _ _ _ _ => dts_nil) (fun _ _ _ _ _ => (de_if (dt_cm (cm_in (units65 hr)) (de_var (pe_var (i := 3) rfl (.inl rfl))) (de_pkFld (C.flds ocl_possible_ok) (pe_var (i := 0) rfl (.inr (.inl rfl)))) rfl) (de_tup (da_cons (de_tup (da_cons de_int (da_cons (de_var (pe_var (i := 3) rfl (.inl rfl))) da_nil))) da_nil)) (de_tup da_nil)))) da_nil)))))))
def S_LogNote___init__ : List EV → Out EV := fnS 3 4 Pr_LogNote___init__ F_LogNote___init__
theorem ok_LogNote___init__ (C : Cfx cfg K mg base) : FnG cfg.prog w K mg base 6 (He.fAd K ("LogNote", some "__init__")) (fdOf K ("LogNote", some "__init__")) ["self", "machine", "starts"] S_LogNote___init__ :=
  fnG_ofC (fD_LogNote___init__ C) sc_LogNote___init__ (by decide) fun A outer s H E hg hr => d_LogNote___init__ C A outer s H E hg hr
def F__law_led : MS := (seqS (forS (seqI (rd 2)) (put 3) (setS 1 (bin2 gIx (bin2 gIx (rd 0) (rd 3)) (rd 1))))
    (retS (rd 1)))
theorem d__law_led (C : Cfx cfg K mg base) (A : Around) (outer : List Env) (s : Shared) (H : Hp) (E : XK) (hg : A.guards = some []) (hr : Room 0 (A.deeper (envOfC "_law_led" (defScope s__law_led) s.heap.objs.size (He.fAd K ("_law_led", none)) (.ref (He.codeOf K ("_law_led", none)))))) :
    DSs (cxOf (CX cfg.prog w) cfg.prog w K mg base N__law_led "_law_led" (defScope s__law_led) (He.fAd K ("_law_led", none)) (.ref (He.codeOf K ("_law_led", none))) A outer s H E) (WofE E) Pn (defBody s__law_led) F__law_led := by
  have tk : Takes (cxOf (CX cfg.prog w) cfg.prog w K mg base N__law_led "_law_led" (defScope s__law_led) (He.fAd K ("_law_led", none)) (.ref (He.codeOf K ("_law_led", none))) A outer s H E) (WofE E) := takes_of rfl rfl rfl rfl
  have hx := fun σ => passAt tk σ
  have hp := passes_of (X := cxOf (CX cfg.prog w) cfg.prog w K mg base N__law_led "_law_led" (defScope s__law_led) (He.fAd K ("_law_led", none)) (.ref (He.codeOf K ("_law_led", none))) A outer s H E) rfl
  unfold F__law_led
  exact (dss_cons (ds_for hp rfl (di_seq (de_var (pe_var (i := 2) rfl (.inl rfl)))) (dg_name sc__law_led.nd rfl (.inl rfl) rfl) (dss_one (ds_set sc__law_led.nd rfl (.inl rfl) rfl (de_ix (de_ix (de_var (pe_var (i := 0) rfl (.inl rfl))) (de_var (pe_var (i := 3) rfl (.inl rfl))) (fun _ _ => rfl)) (de_var (pe_var (i := 1) rfl (.inl rfl))) (fun _ _ => rfl)))))
    (dss_one (ds_ret (de_var (pe_var (i := 1) rfl (.inl rfl))))))
def S__law_led : List EV → Out EV := fnS 3 4 Pn F__law_led
theorem ok__law_led (C : Cfx cfg K mg base) : FnG cfg.prog w K mg base 1 (He.fAd K ("_law_led", none)) (fdOf K ("_law_led", none)) ["_law_tables_here", "_law_state", "_law_log"] S__law_led :=
  fnG_ofC (fD__law_led C) sc__law_led (by decide) fun A outer s H E hg hr => d__law_led C A outer s H E hg hr
def F_is_table : MS := (retS (andV (frzM (callF 1 S_is_sequence [] (consD (rd 0) nilX))) (andV (bin2 gEq (onL gLen (consM (rd 0) nil0)) (rd 1)) (onL gAll (consM (lstM (bnd (seqI (rd 0)) (lcB [2] (put 2) trueT (frzM (callF 2 S_is_below [] (consD (rd 2) (consD (rd 1) nilX))))))) nil0)))))
theorem d_is_table (C : Cfx cfg K mg base) (A : Around) (outer : List Env) (s : Shared) (H : Hp) (E : XK) (hg : A.guards = some []) (hr : Room 3 (A.deeper (envOfC "is_table" (defScope s_is_table) s.heap.objs.size (He.fAd K ("is_table", none)) (.ref (He.codeOf K ("is_table", none)))))) :
    DSs (cxOf (CX cfg.prog w) cfg.prog w K mg base N_is_table "is_table" (defScope s_is_table) (He.fAd K ("is_table", none)) (.ref (He.codeOf K ("is_table", none))) A outer s H E) (WofE E) Pn (defBody s_is_table) F_is_table := by
  have tk : Takes (cxOf (CX cfg.prog w) cfg.prog w K mg base N_is_table "is_table" (defScope s_is_table) (He.fAd K ("is_table", none)) (.ref (He.codeOf K ("is_table", none))) A outer s H E) (WofE E) := takes_of rfl rfl rfl rfl
  have hx := fun σ => passAt tk σ
  have hp := passes_of (X := cxOf (CX cfg.prog w) cfg.prog w K mg base N_is_table "is_table" (defScope s_is_table) (He.fAd K ("is_table", none)) (.ref (He.codeOf K ("is_table", none))) A outer s H E) rfl
  unfold F_is_table
  exact (dss_one (ds_ret (de_and (de_of_do (do_callN (ok_is_sequence C) rfl hg (hr.mono (by decide)) rfl (m_is_sequence C) (fD_is_sequence C).kp (b_is_sequence C) .nil (fun _ => rfl) hx (dx_cons (de_var (pe_var (i := 0) rfl (.inl rfl))) dx_nil))) (de_and (de_cm (cm_eq (hr).units) (de_callB call_len cd_len rfl (m_len C) rfl (da_cons (de_var (pe_var (i := 0) rfl (.inl rfl))) da_nil)) (de_var (pe_var (i := 1) rfl (.inr (.inl rfl)))) rfl) (de_one (de_callB (cr_all rfl) cd_all rfl (m_all C) rfl (da_cons (de_lcN (own := [("state", 2)]) rfl rfl sc_is_table.nd (di_seq (de_var (pe_var (i := 0) rfl (.inl rfl)))) (blkOk_by (by kernel_rfl)) (fun _ _ _ _ _ => (dg_name sc_is_table.nd rfl (.inl rfl) rfl)) (fun _ _ _ _ _ => dts_nil) (fun _ _ _ _ _ => (de_of_do (do_callN (ok_is_below C) rfl hg (hr.mono (by decide)) rfl (m_is_below C) (fD_is_below C).kp (b_is_below C) .nil (fun _ => rfl) (fun _ => passNo) (dx_cons (de_var (pe_var (i := 2) rfl (.inl rfl))) (dx_cons (de_var (pe_var (i := 1) rfl (.inr (.inl rfl)))) dx_nil)))))) da_nil)))))))
def S_is_table : List EV → Out EV := fnS 2 3 Pn F_is_table
theorem ok_is_table (C : Cfx cfg K mg base) : FnG cfg.prog w K mg base 4 (He.fAd K ("is_table", none)) (fdOf K ("is_table", none)) ["value", "states"] S_is_table :=
  fnG_ofC (fD_is_table C) sc_is_table (by decide) fun A outer s H E hg hr => d_is_table C A outer s H E hg hr
def F_check_tables : MS := (seqS (ifS (orT (notT (asB (frzM (callF 1 S_is_sequence [] (consD (rd 0) nilX))))) (notT (asB (chain gLe gLe (cst (.int 1)) (onL gLen (consM (rd 0) nil0)) (cst (.int 8)))))) (raiseS "BadMachine" "at" (un1 gNeg (cst (.int 1)))) .nx)
    (seqS (setS 1 (ifE (asB (frzM (callF 1 S_is_sequence [] (consD (bin2 gIx (rd 0) (cst (.int 0))) nilX)))) (onL gLen (consM (bin2 gIx (rd 0) (cst (.int 0))) nil0)) (cst (.int 0))))
    (seqS (forS (enI (rd 0)) (gsTup 2 (gsCons (put 2) (gsCons (put 3) nilG))) (ifS (orT (notT (asB (chain gLe gLe (cst (.int 1)) (rd 1) (cst (.int 12))))) (notT (asB (frzM (callF 2 S_is_table [] (consD (rd 3) (consD (rd 1) nilX))))))) (raiseS "BadMachine" "at" (rd 2)) .nx))
    (retS (onL gTupOf (consM (lstM (bnd (seqI (rd 0)) (lcB [3] (put 3) trueT (onL gTupOf (consM (rd 3) nil0))))) nil0))))))
theorem d_check_tables (C : Cfx cfg K mg base) (A : Around) (outer : List Env) (s : Shared) (H : Hp) (E : XK) (hg : A.guards = some []) (hr : Room 4 (A.deeper (envOfC "check_tables" (defScope s_check_tables) s.heap.objs.size (He.fAd K ("check_tables", none)) (.ref (He.codeOf K ("check_tables", none)))))) :
    DSs (cxOf (CX cfg.prog w) cfg.prog w K mg base N_check_tables "check_tables" (defScope s_check_tables) (He.fAd K ("check_tables", none)) (.ref (He.codeOf K ("check_tables", none))) A outer s H E) (WofE E) Pn (defBody s_check_tables) F_check_tables := by
  have tk : Takes (cxOf (CX cfg.prog w) cfg.prog w K mg base N_check_tables "check_tables" (defScope s_check_tables) (He.fAd K ("check_tables", none)) (.ref (He.codeOf K ("check_tables", none))) A outer s H E) (WofE E) := takes_of rfl rfl rfl rfl
  have hx := fun σ => passAt tk σ
  have hp := passes_of (X := cxOf (CX cfg.prog w) cfg.prog w K mg base N_check_tables "check_tables" (defScope s_check_tables) (He.fAd K ("check_tables", none)) (.ref (He.codeOf K ("check_tables", none))) A outer s H E) rfl
  unfold F_check_tables
  exact (dss_cons (ds_if (DW.t (dw_or (dt_not (dt_val (de_of_do (do_callN (ok_is_sequence C) rfl hg (hr.mono (by decide)) rfl (m_is_sequence C) (fD_is_sequence C).kp (b_is_sequence C) .nil (fun _ => rfl) hx (dx_cons (de_var (pe_var (i := 0) rfl (.inl rfl))) dx_nil))))) (dw_or1 (dt_not (dt_ch cm_le cm_le de_int (de_callB call_len cd_len rfl (m_len C) rfl (da_cons (de_var (pe_var (i := 0) rfl (.inl rfl))) da_nil)) (de_gint rfl (m_MOST_DEEDS C))))))) (dss_one (ds_raise rfl tk (x_BadMachine C) (m_super C) (hr.mono (by decide)) rfl (m_BadMachine C) (de_neg de_int))) dss_nil)
    (dss_cons (ds_set sc_check_tables.nd rfl (.inl rfl) rfl (de_if (dt_val (de_of_do (do_callN (ok_is_sequence C) rfl hg (hr.mono (by decide)) rfl (m_is_sequence C) (fD_is_sequence C).kp (b_is_sequence C) .nil (fun _ => rfl) hx (dx_cons (de_ix (de_var (pe_var (i := 0) rfl (.inl rfl))) de_int (fun _ _ => rfl)) dx_nil)))) (de_callB call_len cd_len rfl (m_len C) rfl (da_cons (de_ix (de_var (pe_var (i := 0) rfl (.inl rfl))) de_int (fun _ _ => rfl)) da_nil)) de_int))
    (dss_cons (ds_for hp rfl (di_enum rfl (m_enumerate C) (de_var (pe_var (i := 0) rfl (.inl rfl)))) (dg_tup rfl (dgs_cons (dg_name sc_check_tables.nd rfl (.inl rfl) rfl) (dgs_cons (dg_name sc_check_tables.nd rfl (.inl rfl) rfl) dgs_nil))) (dss_one (ds_if (DW.t (dw_or (dt_not (dt_ch cm_le cm_le de_int (de_var (pe_var (i := 1) rfl (.inl rfl))) (de_gint rfl (m_MOST_STATES C)))) (dw_or1 (dt_not (dt_val (de_of_do (do_callN (ok_is_table C) rfl hg (hr.mono (by decide)) rfl (m_is_table C) (fD_is_table C).kp (b_is_table C) .nil (fun _ => rfl) hx (dx_cons (de_var (pe_var (i := 3) rfl (.inl rfl))) (dx_cons (de_var (pe_var (i := 1) rfl (.inl rfl))) dx_nil))))))))) (dss_one (ds_raise rfl tk (x_BadMachine C) (m_super C) (hr.mono (by decide)) rfl (m_BadMachine C) (de_var (pe_var (i := 2) rfl (.inl rfl))))) dss_nil)))
    (dss_one (ds_ret (de_callT call_tuple_ofZ cd_tupOf rfl (m_tuple C) rfl (da_cons (de_lcN (own := [("table", 3)]) rfl rfl sc_check_tables.nd (di_seq (de_var (pe_var (i := 0) rfl (.inl rfl)))) (blkOk_by (by kernel_rfl)) (fun _ _ _ _ _ => (dg_name sc_check_tables.nd rfl (.inl rfl) rfl)) (fun _ _ _ _ _ => dts_nil) (fun _ _ _ _ _ => (de_callT call_tuple_ofZ cd_tupOf rfl (m_tuple C) rfl (da_cons (de_var (pe_var (i := 3) rfl (.inl rfl))) da_nil)))) da_nil)))))))
def S_check_tables : List EV → Out EV := fnS 1 4 Pn F_check_tables
theorem ok_check_tables (C : Cfx cfg K mg base) : FnG cfg.prog w K mg base 5 (He.fAd K ("check_tables", none)) (fdOf K ("check_tables", none)) ["tables"] S_check_tables :=
  fnG_ofC (fD_check_tables C) sc_check_tables (by decide) fun A outer s H E hg hr => d_check_tables C A outer s H E hg hr
abbrev Pr_Machine___init__ : Nat → Bool := (fun i => i == 0)
def F_Machine___init__ : MS := (seqS (fldS ocl 0 "tables" (frzM (callF 1 S_check_tables [] (consD (rd 1) nilX))))
    (seqS (fldS ocl 0 "deeds" (onL gLen (consM (pkFld ocl 0 "tables") nil0)))
    (fldS ocl 0 "states" (onL gLen (consM (bin2 gIx (pkFld ocl 0 "tables") (cst (.int 0))) nil0)))))
theorem d_Machine___init__ (C : Cfx cfg K mg base) (A : Around) (outer : List Env) (s : Shared) (H : Hp) (E : XK) (hg : A.guards = some []) (hr : Room 5 (A.deeper (envOfC "Machine.__init__" (defScope s_Machine___init__) s.heap.objs.size (He.fAd K ("Machine", some "__init__")) (.ref (He.codeOf K ("Machine", some "__init__")))))) :
    DSs (cxOf (CX cfg.prog w) cfg.prog w K mg base N_Machine___init__ "Machine.__init__" (defScope s_Machine___init__) (He.fAd K ("Machine", some "__init__")) (.ref (He.codeOf K ("Machine", some "__init__"))) A outer s H E) (WofE E) Pr_Machine___init__ (defBody s_Machine___init__) F_Machine___init__ := by
  have tk : Takes (cxOf (CX cfg.prog w) cfg.prog w K mg base N_Machine___init__ "Machine.__init__" (defScope s_Machine___init__) (He.fAd K ("Machine", some "__init__")) (.ref (He.codeOf K ("Machine", some "__init__"))) A outer s H E) (WofE E) := takes_of rfl rfl rfl rfl
  have hx := fun σ => passAt tk σ
  have hp := passes_of (X := cxOf (CX cfg.prog w) cfg.prog w K mg base N_Machine___init__ "Machine.__init__" (defScope s_Machine___init__) (He.fAd K ("Machine", some "__init__")) (.ref (He.codeOf K ("Machine", some "__init__"))) A outer s H E) rfl
  unfold F_Machine___init__
  exact (dss_cons (ds_fld (C.flds ocl_tables_ok) (pe_var (i := 0) rfl (.inl rfl)) (de_of_do (do_callN (ok_check_tables C) rfl hg (hr.mono (by decide)) rfl (m_check_tables C) (fD_check_tables C).kp (b_check_tables C) .nil (fun _ => rfl) hx (dx_cons (de_var (pe_var (i := 1) rfl (.inl rfl))) dx_nil))))
    (dss_cons (ds_fld (C.flds ocl_deeds_ok) (pe_var (i := 0) rfl (.inl rfl)) (de_callB call_len cd_len rfl (m_len C) rfl (da_cons (de_pkFld (C.flds ocl_tables_ok) (pe_var (i := 0) rfl (.inl rfl))) da_nil)))
    (dss_one (ds_fld (C.flds ocl_states_ok) (pe_var (i := 0) rfl (.inl rfl)) (de_callB call_len cd_len rfl (m_len C) rfl (da_cons (de_ix (de_pkFld (C.flds ocl_tables_ok) (pe_var (i := 0) rfl (.inl rfl))) de_int (fun _ _ => rfl)) da_nil))))))
def S_Machine___init__ : List EV → Out EV := fnS 2 2 Pr_Machine___init__ F_Machine___init__
theorem ok_Machine___init__ (C : Cfx cfg K mg base) : FnG cfg.prog w K mg base 6 (He.fAd K ("Machine", some "__init__")) (fdOf K ("Machine", some "__init__")) ["self", "tables"] S_Machine___init__ :=
  fnG_ofC (fD_Machine___init__ C) sc_Machine___init__ (by decide) fun A outer s H E hg hr => d_Machine___init__ C A outer s H E hg hr
def F_need_state : MS := (seqS (ifS (notT (asB (frzM (callF 2 S_is_below [] (consD (rd 1) (consD (un1 (gFld ocl "states") (rd 0)) nilX)))))) (raiseS "NoState" "state" (rd 1)) .nx)
    (retS (rd 1)))
theorem d_need_state (C : Cfx cfg K mg base) (A : Around) (outer : List Env) (s : Shared) (H : Hp) (E : XK) (hg : A.guards = some []) (hr : Room 3 (A.deeper (envOfC "need_state" (defScope s_need_state) s.heap.objs.size (He.fAd K ("need_state", none)) (.ref (He.codeOf K ("need_state", none)))))) :
    DSs (cxOf (CX cfg.prog w) cfg.prog w K mg base N_need_state "need_state" (defScope s_need_state) (He.fAd K ("need_state", none)) (.ref (He.codeOf K ("need_state", none))) A outer s H E) (WofE E) Pn (defBody s_need_state) F_need_state := by
  have tk : Takes (cxOf (CX cfg.prog w) cfg.prog w K mg base N_need_state "need_state" (defScope s_need_state) (He.fAd K ("need_state", none)) (.ref (He.codeOf K ("need_state", none))) A outer s H E) (WofE E) := takes_of rfl rfl rfl rfl
  have hx := fun σ => passAt tk σ
  have hp := passes_of (X := cxOf (CX cfg.prog w) cfg.prog w K mg base N_need_state "need_state" (defScope s_need_state) (He.fAd K ("need_state", none)) (.ref (He.codeOf K ("need_state", none))) A outer s H E) rfl
  unfold F_need_state
  exact (dss_cons (ds_if (dt_not (dt_val (de_of_do (do_callN (ok_is_below C) rfl hg (hr.mono (by decide)) rfl (m_is_below C) (fD_is_below C).kp (b_is_below C) .nil (fun _ => rfl) hx (dx_cons (de_var (pe_var (i := 1) rfl (.inl rfl))) (dx_cons (de_fld (C.flds ocl_states_ok) (de_var (pe_var (i := 0) rfl (.inl rfl)))) dx_nil)))))) (dss_one (ds_raise rfl tk (x_NoState C) (m_super C) (hr.mono (by decide)) rfl (m_NoState C) (de_var (pe_var (i := 1) rfl (.inl rfl))))) dss_nil)
    (dss_one (ds_ret (de_var (pe_var (i := 1) rfl (.inl rfl))))))
def S_need_state : List EV → Out EV := fnS 2 2 Pn F_need_state
theorem ok_need_state (C : Cfx cfg K mg base) : FnG cfg.prog w K mg base 4 (He.fAd K ("need_state", none)) (fdOf K ("need_state", none)) ["machine", "state"] S_need_state :=
  fnG_ofC (fD_need_state C) sc_need_state (by decide) fun A outer s H E hg hr => d_need_state C A outer s H E hg hr
def F_behind : MS := (seqS (forS (seqI (rd 2)) (put 3) (setS 1 (bin2 gIx (bin2 gIx (rd 0) (rd 3)) (rd 1))))
    (retS (rd 1)))
theorem d_behind (C : Cfx cfg K mg base) (A : Around) (outer : List Env) (s : Shared) (H : Hp) (E : XK) (hg : A.guards = some []) (hr : Room 0 (A.deeper (envOfC "behind" (defScope s_behind) s.heap.objs.size (He.fAd K ("behind", none)) (.ref (He.codeOf K ("behind", none)))))) :
    DSs (cxOf (CX cfg.prog w) cfg.prog w K mg base N_behind "behind" (defScope s_behind) (He.fAd K ("behind", none)) (.ref (He.codeOf K ("behind", none))) A outer s H E) (WofE E) Pn (defBody s_behind) F_behind := by
  have tk : Takes (cxOf (CX cfg.prog w) cfg.prog w K mg base N_behind "behind" (defScope s_behind) (He.fAd K ("behind", none)) (.ref (He.codeOf K ("behind", none))) A outer s H E) (WofE E) := takes_of rfl rfl rfl rfl
  have hx := fun σ => passAt tk σ
  have hp := passes_of (X := cxOf (CX cfg.prog w) cfg.prog w K mg base N_behind "behind" (defScope s_behind) (He.fAd K ("behind", none)) (.ref (He.codeOf K ("behind", none))) A outer s H E) rfl
  unfold F_behind
  exact (dss_cons (ds_for hp rfl (di_seq (de_var (pe_var (i := 2) rfl (.inl rfl)))) (dg_name sc_behind.nd rfl (.inl rfl) rfl) (dss_one (ds_set sc_behind.nd rfl (.inl rfl) rfl (de_ix (de_ix (de_var (pe_var (i := 0) rfl (.inl rfl))) (de_var (pe_var (i := 3) rfl (.inl rfl))) (fun _ _ => rfl)) (de_var (pe_var (i := 1) rfl (.inl rfl))) (fun _ _ => rfl)))))
    (dss_one (ds_ret (de_var (pe_var (i := 1) rfl (.inl rfl))))))
def S_behind : List EV → Out EV := fnS 3 4 Pn F_behind
theorem ok_behind (C : Cfx cfg K mg base) : FnG cfg.prog w K mg base 1 (He.fAd K ("behind", none)) (fdOf K ("behind", none)) ["tables", "state", "log"] S_behind :=
  fnG_ofC (fD_behind C) sc_behind (by decide) fun A outer s H E hg hr => d_behind C A outer s H E hg hr
def F_check_log : MS := (seqS (ifS (orT (notT (asB (frzM (callF 1 S_is_sequence [] (consD (rd 1) nilX))))) (asB (bin2 gGt (onL gLen (consM (rd 1) nil0)) (cst (.int 10000))))) (raiseS "BadLog" "at" (un1 gNeg (cst (.int 1)))) .nx)
    (seqS (forS (enI (rd 1)) (gsTup 2 (gsCons (put 2) (gsCons (put 3) nilG))) (ifS (notT (asB (frzM (callF 2 S_is_below [] (consD (rd 3) (consD (un1 (gFld ocl "deeds") (rd 0)) nilX)))))) (raiseS "BadLog" "at" (rd 2)) .nx))
    (retS (onL gTupOf (consM (rd 1) nil0)))))
theorem d_check_log (C : Cfx cfg K mg base) (A : Around) (outer : List Env) (s : Shared) (H : Hp) (E : XK) (hg : A.guards = some []) (hr : Room 3 (A.deeper (envOfC "check_log" (defScope s_check_log) s.heap.objs.size (He.fAd K ("check_log", none)) (.ref (He.codeOf K ("check_log", none)))))) :
    DSs (cxOf (CX cfg.prog w) cfg.prog w K mg base N_check_log "check_log" (defScope s_check_log) (He.fAd K ("check_log", none)) (.ref (He.codeOf K ("check_log", none))) A outer s H E) (WofE E) Pn (defBody s_check_log) F_check_log := by
  have tk : Takes (cxOf (CX cfg.prog w) cfg.prog w K mg base N_check_log "check_log" (defScope s_check_log) (He.fAd K ("check_log", none)) (.ref (He.codeOf K ("check_log", none))) A outer s H E) (WofE E) := takes_of rfl rfl rfl rfl
  have hx := fun σ => passAt tk σ
  have hp := passes_of (X := cxOf (CX cfg.prog w) cfg.prog w K mg base N_check_log "check_log" (defScope s_check_log) (He.fAd K ("check_log", none)) (.ref (He.codeOf K ("check_log", none))) A outer s H E) rfl
  unfold F_check_log
  exact (dss_cons (ds_if (DW.t (dw_or (dt_not (dt_val (de_of_do (do_callN (ok_is_sequence C) rfl hg (hr.mono (by decide)) rfl (m_is_sequence C) (fD_is_sequence C).kp (b_is_sequence C) .nil (fun _ => rfl) hx (dx_cons (de_var (pe_var (i := 1) rfl (.inl rfl))) dx_nil))))) (dw_or1 (dt_cm cm_gt (de_callB call_len cd_len rfl (m_len C) rfl (da_cons (de_var (pe_var (i := 1) rfl (.inl rfl))) da_nil)) (de_gint rfl (m_MOST_LOG C)) rfl)))) (dss_one (ds_raise rfl tk (x_BadLog C) (m_super C) (hr.mono (by decide)) rfl (m_BadLog C) (de_neg de_int))) dss_nil)
    (dss_cons (ds_for hp rfl (di_enum rfl (m_enumerate C) (de_var (pe_var (i := 1) rfl (.inl rfl)))) (dg_tup rfl (dgs_cons (dg_name sc_check_log.nd rfl (.inl rfl) rfl) (dgs_cons (dg_name sc_check_log.nd rfl (.inl rfl) rfl) dgs_nil))) (dss_one (ds_if (dt_not (dt_val (de_of_do (do_callN (ok_is_below C) rfl hg (hr.mono (by decide)) rfl (m_is_below C) (fD_is_below C).kp (b_is_below C) .nil (fun _ => rfl) hx (dx_cons (de_var (pe_var (i := 3) rfl (.inl rfl))) (dx_cons (de_fld (C.flds ocl_deeds_ok) (de_var (pe_var (i := 0) rfl (.inl rfl)))) dx_nil)))))) (dss_one (ds_raise rfl tk (x_BadLog C) (m_super C) (hr.mono (by decide)) rfl (m_BadLog C) (de_var (pe_var (i := 2) rfl (.inl rfl))))) dss_nil)))
    (dss_one (ds_ret (de_callT call_tuple_ofZ cd_tupOf rfl (m_tuple C) rfl (da_cons (de_var (pe_var (i := 1) rfl (.inl rfl))) da_nil))))))
def S_check_log : List EV → Out EV := fnS 2 4 Pn F_check_log
theorem ok_check_log (C : Cfx cfg K mg base) : FnG cfg.prog w K mg base 4 (He.fAd K ("check_log", none)) (fdOf K ("check_log", none)) ["machine", "value"] S_check_log :=
  fnG_ofC (fD_check_log C) sc_check_log (by decide) fun A outer s H E hg hr => d_check_log C A outer s H E hg hr
def F_LogNote_read : MS := (seqS (dropS (frzM (callF 2 S_need_state [] (consD (un1 (gFld ocl "machine") (rd 0)) (consD (rd 1) nilX)))))
    (seqS (setS 4 (ifE (asB (frzM (callF 1 S_is_number [] (consD (rd 2) nilX)))) (get1M (dictM (consM (bin2 gIx (un1 (gFld ocl "rows") (rd 0)) (rd 1)) nil0)) (rd 2)) (cst .non)))
    (seqS (ifS (asB (bin2 gIsN (rd 4) (cst .non))) (raiseS "BadCopy" "at" (rd 2)) .nx)
    (retS (frzM (callF 3 S_behind [] (consD (un1 (gFld ocl "tables") (un1 (gFld ocl "machine") (rd 0))) (consD (rd 4) (consD (frzM (callF 2 S_check_log [] (consD (un1 (gFld ocl "machine") (rd 0)) (consD (rd 3) nilX)))) nilX)))))))))
theorem d_LogNote_read (C : Cfx cfg K mg base) (A : Around) (outer : List Env) (s : Shared) (H : Hp) (E : XK) (hg : A.guards = some []) (hr : Room 4 (A.deeper (envOfC "LogNote.read" (defScope s_LogNote_read) s.heap.objs.size (He.fAd K ("LogNote", some "read")) (.ref (He.codeOf K ("LogNote", some "read")))))) :
    DSs (cxOf (CX cfg.prog w) cfg.prog w K mg base N_LogNote_read "LogNote.read" (defScope s_LogNote_read) (He.fAd K ("LogNote", some "read")) (.ref (He.codeOf K ("LogNote", some "read"))) A outer s H E) (WofE E) Pn (defBody s_LogNote_read) F_LogNote_read := by
  have tk : Takes (cxOf (CX cfg.prog w) cfg.prog w K mg base N_LogNote_read "LogNote.read" (defScope s_LogNote_read) (He.fAd K ("LogNote", some "read")) (.ref (He.codeOf K ("LogNote", some "read"))) A outer s H E) (WofE E) := takes_of rfl rfl rfl rfl
  have hx := fun σ => passAt tk σ
  have hp := passes_of (X := cxOf (CX cfg.prog w) cfg.prog w K mg base N_LogNote_read "LogNote.read" (defScope s_LogNote_read) (He.fAd K ("LogNote", some "read")) (.ref (He.codeOf K ("LogNote", some "read"))) A outer s H E) rfl
  unfold F_LogNote_read
  exact (dss_cons (ds_expr (de_of_do (do_callN (ok_need_state C) rfl hg (hr.mono (by decide)) rfl (m_need_state C) (fD_need_state C).kp (b_need_state C) .nil (fun _ => rfl) hx (dx_cons (de_fld (C.flds ocl_machine_ok) (de_var (pe_var (i := 0) rfl (.inl rfl)))) (dx_cons (de_var (pe_var (i := 1) rfl (.inl rfl))) dx_nil)))))
    (dss_cons (ds_set sc_LogNote_read.nd rfl (.inl rfl) rfl (de_if (dt_val (de_of_do (do_callN (ok_is_number C) rfl hg (hr.mono (by decide)) rfl (m_is_number C) (fD_is_number C).kp (b_is_number C) .nil (fun _ => rfl) hx (dx_cons (de_var (pe_var (i := 2) rfl (.inl rfl))) dx_nil)))) (de_get1 (u65 (hr)) (do_dictZ rfl rfl (m_dict C) rfl (da_cons (de_ix (de_fld (C.flds ocl_rows_ok) (de_var (pe_var (i := 0) rfl (.inl rfl)))) (de_var (pe_var (i := 1) rfl (.inl rfl))) (fun _ _ => rfl)) da_nil)) (de_var (pe_var (i := 2) rfl (.inl rfl))) ⟨rfl, rfl, rfl, rfl⟩) de_non))
    (dss_cons (ds_if (dt_cm cm_isN (de_var (pe_var (i := 4) rfl (.inl rfl))) de_non rfl) (dss_one (ds_raise rfl tk (x_BadCopy C) (m_super C) (hr.mono (by decide)) rfl (m_BadCopy C) (de_var (pe_var (i := 2) rfl (.inl rfl))))) dss_nil)
    (dss_one (ds_ret (de_of_do (do_callN (ok_behind C) rfl hg (hr.mono (by decide)) rfl (m_behind C) (fD_behind C).kp (b_behind C) .nil (fun _ => rfl) hx (dx_cons (de_fld (C.flds ocl_tables_ok) (de_fld (C.flds ocl_machine_ok) (de_var (pe_var (i := 0) rfl (.inl rfl))))) (dx_cons (de_var (pe_var (i := 4) rfl (.inl rfl))) (dx_cons (de_of_do (do_callN (ok_check_log C) rfl hg (hr.mono (by decide)) rfl (m_check_log C) (fD_check_log C).kp (b_check_log C) .nil (fun _ => rfl) hx (dx_cons (de_fld (C.flds ocl_machine_ok) (de_var (pe_var (i := 0) rfl (.inl rfl)))) (dx_cons (de_var (pe_var (i := 3) rfl (.inl rfl))) dx_nil)))) dx_nil))))))))))
def S_LogNote_read : List EV → Out EV := fnS 4 5 Pn F_LogNote_read
theorem ok_LogNote_read (C : Cfx cfg K mg base) : FnG cfg.prog w K mg base 5 (He.fAd K ("LogNote", some "read")) (fdOf K ("LogNote", some "read")) ["self", "state", "mark", "later"] S_LogNote_read :=
  fnG_ofC (fD_LogNote_read C) sc_LogNote_read (by decide) fun A outer s H E hg hr => d_LogNote_read C A outer s H E hg hr
def F__law_copies_right : MS := (seqS (forS (seqI (rd 4)) (gsTup 3 (gsCons (put 5) (gsCons (put 6) (gsCons (put 7) nilG)))) (seqS (setS 8 (frzM (methD ["LogNote"] "read" 4 S_LogNote_read [(DL.D.tup [])] (rd 0) (consD (rd 5) (consD (rd 6) nilX)))))
    (forS (seqI (rd 2)) (put 9) (ifS (andT (asB (bin2 gEq (frzM (callF 3 S__law_led [] (consD (rd 1) (consD (rd 9) (consD (slM (rd 3) noneP (asI (rd 7))) nilX))))) (rd 5))) (asB (bin2 gNe (frzM (callF 3 S__law_led [] (consD (rd 1) (consD (rd 9) (consD (rd 3) nilX))))) (rd 8)))) (retS (cst (.bl false))) .nx))))
    (retS (cst (.bl true))))
theorem d__law_copies_right (C : Cfx cfg K mg base) (A : Around) (outer : List Env) (s : Shared) (H : Hp) (E : XK) (hg : A.guards = some []) (hr : Room 5 (A.deeper (envOfC "_law_copies_right" (defScope s__law_copies_right) s.heap.objs.size (He.fAd K ("_law_copies_right", none)) (.ref (He.codeOf K ("_law_copies_right", none)))))) :
    DSs (cxOf (CX cfg.prog w) cfg.prog w K mg base N__law_copies_right "_law_copies_right" (defScope s__law_copies_right) (He.fAd K ("_law_copies_right", none)) (.ref (He.codeOf K ("_law_copies_right", none))) A outer s H E) (WofE E) Pn (defBody s__law_copies_right) F__law_copies_right := by
  have tk : Takes (cxOf (CX cfg.prog w) cfg.prog w K mg base N__law_copies_right "_law_copies_right" (defScope s__law_copies_right) (He.fAd K ("_law_copies_right", none)) (.ref (He.codeOf K ("_law_copies_right", none))) A outer s H E) (WofE E) := takes_of rfl rfl rfl rfl
  have hx := fun σ => passAt tk σ
  have hp := passes_of (X := cxOf (CX cfg.prog w) cfg.prog w K mg base N__law_copies_right "_law_copies_right" (defScope s__law_copies_right) (He.fAd K ("_law_copies_right", none)) (.ref (He.codeOf K ("_law_copies_right", none))) A outer s H E) rfl
  unfold F__law_copies_right
  exact (dss_cons (ds_for hp rfl (di_seq (de_var (pe_var (i := 4) rfl (.inl rfl)))) (dg_tup rfl (dgs_cons (dg_name sc__law_copies_right.nd rfl (.inl rfl) rfl) (dgs_cons (dg_name sc__law_copies_right.nd rfl (.inl rfl) rfl) (dgs_cons (dg_name sc__law_copies_right.nd rfl (.inl rfl) rfl) dgs_nil)))) (dss_cons (ds_set sc__law_copies_right.nd rfl (.inl rfl) rfl (de_of_do ((db_LogNote_read_3 C).elim fun _ hdb => do_methD (mets_LogNote_read C) (de_var (pe_var (i := 0) rfl (.inl rfl))) (ok_LogNote_read C) rfl hg (hr.mono (by decide)) hdb.2 hdb.1 (dd_LogNote_read_3 C) hx (dx_cons (de_var (pe_var (i := 5) rfl (.inl rfl))) (dx_cons (de_var (pe_var (i := 6) rfl (.inl rfl))) dx_nil)))))
    (dss_one (ds_for hp rfl (di_seq (de_var (pe_var (i := 2) rfl (.inl rfl)))) (dg_name sc__law_copies_right.nd rfl (.inl rfl) rfl) (dss_one (ds_if (DW.t (dw_and (dt_cm (cm_eq (hr).units) (de_of_do (do_callN (ok__law_led C) rfl hg (hr.mono (by decide)) rfl (m__law_led C) (fD__law_led C).kp (b__law_led C) .nil (fun _ => rfl) hx (dx_cons (de_var (pe_var (i := 1) rfl (.inl rfl))) (dx_cons (de_var (pe_var (i := 9) rfl (.inl rfl))) (dx_cons (de_sl (de_var (pe_var (i := 3) rfl (.inl rfl))) dp_none (dp_some (de_var (pe_var (i := 7) rfl (.inl rfl))))) dx_nil))))) (de_var (pe_var (i := 5) rfl (.inl rfl))) rfl) (dw_and1 (dt_cm (cm_ne (hr).units) (de_of_do (do_callN (ok__law_led C) rfl hg (hr.mono (by decide)) rfl (m__law_led C) (fD__law_led C).kp (b__law_led C) .nil (fun _ => rfl) hx (dx_cons (de_var (pe_var (i := 1) rfl (.inl rfl))) (dx_cons (de_var (pe_var (i := 9) rfl (.inl rfl))) (dx_cons (de_var (pe_var (i := 3) rfl (.inl rfl))) dx_nil))))) (de_var (pe_var (i := 8) rfl (.inl rfl))) rfl)))) (dss_one (ds_ret de_bl)) dss_nil))))))
    (dss_one (ds_ret de_bl)))
def S__law_copies_right : List EV → Out EV := fnS 5 10 Pn F__law_copies_right
theorem ok__law_copies_right (C : Cfx cfg K mg base) : FnG cfg.prog w K mg base 6 (He.fAd K ("_law_copies_right", none)) (fdOf K ("_law_copies_right", none)) ["_law_note", "_law_tables_here", "_law_starts_here", "_law_log", "_law_copies"] S__law_copies_right :=
  fnG_ofC (fD__law_copies_right C) sc__law_copies_right (by decide) fun A outer s H E hg hr => d__law_copies_right C A outer s H E hg hr
def F_LogNote_mark : MS := (seqS (ifS (asB (bin2 gNotIn (frzM (callF 2 S_need_state [] (consD (un1 (gFld ocl "machine") (rd 0)) (consD (rd 1) nilX)))) (un1 (gFld ocl "possible") (rd 0)))) (raiseS "Refused" "at" (rd 1)) .nx)
    (retS (bin2 gIx (bin2 gIx (bin2 gIx (un1 (gFld ocl "rows") (rd 0)) (rd 1)) (cst (.int 0))) (cst (.int 0)))))
theorem d_LogNote_mark (C : Cfx cfg K mg base) (A : Around) (outer : List Env) (s : Shared) (H : Hp) (E : XK) (hg : A.guards = some []) (hr : Room 4 (A.deeper (envOfC "LogNote.mark" (defScope s_LogNote_mark) s.heap.objs.size (He.fAd K ("LogNote", some "mark")) (.ref (He.codeOf K ("LogNote", some "mark")))))) :
    DSs (cxOf (CX cfg.prog w) cfg.prog w K mg base N_LogNote_mark "LogNote.mark" (defScope s_LogNote_mark) (He.fAd K ("LogNote", some "mark")) (.ref (He.codeOf K ("LogNote", some "mark"))) A outer s H E) (WofE E) Pn (defBody s_LogNote_mark) F_LogNote_mark := by
  have tk : Takes (cxOf (CX cfg.prog w) cfg.prog w K mg base N_LogNote_mark "LogNote.mark" (defScope s_LogNote_mark) (He.fAd K ("LogNote", some "mark")) (.ref (He.codeOf K ("LogNote", some "mark"))) A outer s H E) (WofE E) := takes_of rfl rfl rfl rfl
  have hx := fun σ => passAt tk σ
  have hp := passes_of (X := cxOf (CX cfg.prog w) cfg.prog w K mg base N_LogNote_mark "LogNote.mark" (defScope s_LogNote_mark) (He.fAd K ("LogNote", some "mark")) (.ref (He.codeOf K ("LogNote", some "mark"))) A outer s H E) rfl
  unfold F_LogNote_mark
  exact (dss_cons (ds_if (dt_cm (cm_notIn (units65 hr)) (de_of_do (do_callN (ok_need_state C) rfl hg (hr.mono (by decide)) rfl (m_need_state C) (fD_need_state C).kp (b_need_state C) .nil (fun _ => rfl) hx (dx_cons (de_fld (C.flds ocl_machine_ok) (de_var (pe_var (i := 0) rfl (.inl rfl)))) (dx_cons (de_var (pe_var (i := 1) rfl (.inl rfl))) dx_nil)))) (de_fld (C.flds ocl_possible_ok) (de_var (pe_var (i := 0) rfl (.inl rfl)))) rfl) (dss_one (ds_raise rfl tk (x_Refused C) (m_super C) (hr.mono (by decide)) rfl (m_Refused C) (de_var (pe_var (i := 1) rfl (.inl rfl))))) dss_nil)
    (dss_one (ds_ret (de_ix (de_ix (de_ix (de_fld (C.flds ocl_rows_ok) (de_var (pe_var (i := 0) rfl (.inl rfl)))) (de_var (pe_var (i := 1) rfl (.inl rfl))) (fun _ _ => rfl)) de_int (fun _ _ => rfl)) de_int (fun _ _ => rfl)))))
def S_LogNote_mark : List EV → Out EV := fnS 2 2 Pn F_LogNote_mark
theorem ok_LogNote_mark (C : Cfx cfg K mg base) : FnG cfg.prog w K mg base 5 (He.fAd K ("LogNote", some "mark")) (fdOf K ("LogNote", some "mark")) ["self", "state"] S_LogNote_mark :=
  fnG_ofC (fD_LogNote_mark C) sc_LogNote_mark (by decide) fun A outer s H E hg hr => d_LogNote_mark C A outer s H E hg hr
def F_law : MS := (seqS (setO 1 (callF 2 S__law_box [] (consD (rd 0) (consD (cst (.int 0)) nilX))))
    (seqS (setS 2 (frzM (callF 1 S__law_tables [] (consI 1 nilX))))
    (seqS (parN [3, 4] (consO (vM (onL gLen (consM (bin2 gIx (rd 2) (cst (.int 0))) nil0))) (consO (vM (frzM (callF 2 S__law_starts [] (consI 1 (consD (onL gLen (consM (bin2 gIx (rd 2) (cst (.int 0))) nil0)) nilX))))) nilO)))
    (seqS (parN [5, 6, 7] (consO (makeK "LogNote" 1 1 3 S_LogNote___init__ kb_0_gD (consM (frzM (makeF "Machine" 2 S_Machine___init__ [] (consD (rd 2) nilX))) nil0) (consM (rd 4) nil0)) (consO (vM (onL gTup nil0)) (consO (ownL nil0) nilO))))
    (seqS (forS (onI gRg2 (consM (cst (.int 1)) (consM (onL gMax2 (consM (cst (.int 12)) (consM (onL gMin2 (consM (onL gLen (consM (rd 0) nil0)) (consM (cst (.int 40)) nil0))) nil0))) nil0))) (put 8) (seqS (setO 1 (callF 2 S__law_box [] (consD (rd 0) (consD (rd 8) nilX))))
    (seqS (forS (onI gRg1 (consM (frzM (callF 2 S__law_take [] (consI 1 (consD (cst (.int 4)) nilX)))) nil0)) (put 9) (seqS (setS 10 (frzM (callF 2 S__law_pick [] (consI 1 (consD (onL gLstOf (consM (pkFld ocl 5 "possible") nil0)) nilX)))))
    (appS 7 (onL gTup (consM (rd 10) (consM (lendM (frzM (methD ["LogNote"] "mark" 2 S_LogNote_mark [] (rd 5) (consD (rd 10) nilX)))) (consM (onL gLen (consM (rd 6) nil0)) nil0)))))))
    (seqS (ifS (andT (lendT (asB (bin2 gNe (rd 7) (onL gLst nil0)))) (asB (bin2 gEq (frzM (callF 2 S__law_take [] (consI 1 (consD (cst (.int 3)) nilX)))) (cst (.int 0))))) (popS 7 (frzM (callF 2 S__law_take [] (consI 1 (consD (lendM (onL gLen (consM (rd 7) nil0))) nilX))))) .nx)
    (seqS (ifS (notT (asB (lendM (frzM (callF 5 S__law_copies_right [] (consD (rd 5) (consD (rd 2) (consD (rd 4) (consD (rd 6) (consD (rd 7) nilX)))))))))) (retS (cst (.bl false))) .nx)
    (seqS (ifS (asB (bin2 gNe (lstM (bnd (seqI (pkFld ocl 5 "rows")) (lcB [16] (put 16) (asB (bin2 gGt (onL gLen (consM (rd 16) nil0)) (onL gLen (consM (rd 4) nil0)))) (rd 16)))) (onL gLst nil0))) (retS (cst (.bl false))) .nx)
    (seqS (setS 11 (frzM (callF 2 S__law_take [] (consI 1 (consD (onL gLen (consM (rd 2) nil0)) nilX)))))
    (seqS (dropS (frzM (methF ["LogNote"] 5 "put" 2 S_LogNote_put [] (consD (rd 11) nilX))))
    (setS 6 (bin2 gAdd (rd 6) (onL gTup (consM (rd 11) nil0))))))))))))
    (seqS (setO 12 (dnewO true))
    (seqS (forS (seqI (rdF 7)) (gsTup 3 (gsCons (put 10) (gsCons (put 13) (gsCons (put 14) nilG)))) (seqS (setS 15 (frzM (callF 3 S__law_led [] (consD (rd 2) (consD (rd 10) (consD (slM (rd 6) (asI (rd 14)) noneP) nilX))))))
    (seqS (ifS (orT (asB (bin2 gNe (pkGetT 12 (consM (rd 10) (consM (rd 13) nil0)) (rd 15)) (rd 15))) (asB (bin2 gNe (lendM (frzM (methD ["LogNote"] "read" 4 S_LogNote_read [(DL.D.tup [])] (rd 5) (consD (rd 10) (consD (rd 13) nilX))))) (rd 15)))) (retS (cst (.bl false))) .nx)
    (dputT 12 (rd 15) (consM (rd 10) (consM (rd 13) nil0))))))
    (retS (cst (.bl true))))))))))
theorem d_law (C : Cfx cfg K mg base) (A : Around) (outer : List Env) (s : Shared) (H : Hp) (E : XK) (hg : A.guards = some []) (hr : Room 7 (A.deeper (envOfC "law" (defScope s_law) s.heap.objs.size (He.fAd K ("law", none)) (.ref (He.codeOf K ("law", none)))))) :
    DSs (cxOf (CX cfg.prog w) cfg.prog w K mg base N_law "law" (defScope s_law) (He.fAd K ("law", none)) (.ref (He.codeOf K ("law", none))) A outer s H E) (WofE E) Pn (defBody s_law) F_law := by
  have tk : Takes (cxOf (CX cfg.prog w) cfg.prog w K mg base N_law "law" (defScope s_law) (He.fAd K ("law", none)) (.ref (He.codeOf K ("law", none))) A outer s H E) (WofE E) := takes_of rfl rfl rfl rfl
  have hx := fun σ => passAt tk σ
  have hp := passes_of (X := cxOf (CX cfg.prog w) cfg.prog w K mg base N_law "law" (defScope s_law) (He.fAd K ("law", none)) (.ref (He.codeOf K ("law", none))) A outer s H E) rfl
  unfold F_law
  exact (dss_cons (ds_setO sc_law.nd rfl (.inl rfl) rfl (do_callN (ok__law_box C) rfl hg (hr.mono (by decide)) rfl (m__law_box C) (fD__law_box C).kp (b__law_box C) .nil (fun _ => rfl) hx (dx_cons (de_var (pe_var (i := 0) rfl (.inl rfl))) (dx_cons de_int dx_nil))))
    (dss_cons (ds_set sc_law.nd rfl (.inl rfl) rfl (de_of_do (do_callN (ok__law_tables C) rfl hg (hr.mono (by decide)) rfl (m__law_tables C) (fD__law_tables C).kp (b__law_tables C) .nil (fun _ => rfl) hx (dx_io (pe_var (i := 1) rfl (.inl rfl)) dx_nil))))
    (dss_cons (ds_parT rfl (dns_cons sc_law.nd rfl (.inl rfl) (dns_cons sc_law.nd rfl (.inr rfl) dns_nil)) (by decide) (dos_cons (do_of_de (de_callB call_len cd_len rfl (m_len C) rfl (da_cons (de_ix (de_var (pe_var (i := 2) rfl (.inl rfl))) de_int (fun _ _ => rfl)) da_nil))) (dos_cons (do_of_de (de_of_do (do_callN (ok__law_starts C) rfl hg (hr.mono (by decide)) rfl (m__law_starts C) (fD__law_starts C).kp (b__law_starts C) .nil (fun _ => rfl) hx (dx_io (pe_var (i := 1) rfl (.inl rfl)) (dx_cons (de_callB call_len cd_len rfl (m_len C) rfl (da_cons (de_ix (de_var (pe_var (i := 2) rfl (.inl rfl))) de_int (fun _ _ => rfl)) da_nil)) dx_nil))))) dos_nil)) rfl rfl)
    (dss_cons (ds_par3 rfl sc_law.nd rfl rfl rfl  (by decide) (by decide) (by decide)  rfl rfl rfl  (by decide) (dos_cons ((kb_0 C).elim fun _ hb => do_makeK (mk_LogNote C) (ok_LogNote___init__ C) rfl rfl hg (hr.mono (by decide)) rfl (m_LogNote C) hb (fun _ _ _ => rfl) (kb_0_rep C) hx (da_cons (de_of_do (do_makeN (mk_Machine C) (ok_Machine___init__ C) rfl hg (hr.mono (by decide)) rfl (m_Machine C) (b_Machine___init__ C) .nil (fun _ => rfl) hx (dx_cons (de_var (pe_var (i := 2) rfl (.inl rfl))) dx_nil))) da_nil) (dk_cons (de_var (pe_var (i := 4) rfl (.inr (.inl rfl)))) dk_nil)) (dos_cons (do_of_de (de_tup da_nil)) (dos_cons (do_lst da_nil) dos_nil))) rfl)
    (dss_cons (ds_for hp rfl (di_rg2 rfl (m_range C) (da_cons de_int (da_cons (de_callB (call_max2 rfl) cd_max2 rfl (m_max C) rfl (da_cons de_int (da_cons (de_callB (call_min2 rfl) cd_min2 rfl (m_min C) rfl (da_cons (de_callB call_len cd_len rfl (m_len C) rfl (da_cons (de_var (pe_var (i := 0) rfl (.inl rfl))) da_nil)) (da_cons de_int da_nil))) da_nil))) da_nil))) (dg_name sc_law.nd rfl (.inl rfl) rfl) (dss_cons (ds_setO sc_law.nd rfl (.inl rfl) rfl (do_callN (ok__law_box C) rfl hg (hr.mono (by decide)) rfl (m__law_box C) (fD__law_box C).kp (b__law_box C) .nil (fun _ => rfl) hx (dx_cons (de_var (pe_var (i := 0) rfl (.inl rfl))) (dx_cons (de_var (pe_var (i := 8) rfl (.inl rfl))) dx_nil))))
    (dss_cons (ds_for hp rfl (di_rg1 rfl (m_range C) (da_cons (de_of_do (do_callN (ok__law_take C) rfl hg (hr.mono (by decide)) rfl (m__law_take C) (fD__law_take C).kp (b__law_take C) .nil (fun _ => rfl) hx (dx_io (pe_var (i := 1) rfl (.inl rfl)) (dx_cons de_int dx_nil)))) da_nil)) (dg_name sc_law.nd rfl (.inl rfl) rfl) (dss_cons (ds_set sc_law.nd rfl (.inl rfl) rfl (de_of_do (do_callN (ok__law_pick C) rfl hg (hr.mono (by decide)) rfl (m__law_pick C) (fD__law_pick C).kp (b__law_pick C) .nil (fun _ => rfl) hx (dx_io (pe_var (i := 1) rfl (.inl rfl)) (dx_cons (de_callT call_list_of cd_lstOf rfl (m_list C) rfl (da_cons (de_pkFld (C.flds ocl_possible_ok) (pe_var (i := 5) rfl (.inl rfl))) da_nil)) dx_nil)))))
    (dss_one (ds_append (pe_var (i := 7) rfl (.inl rfl)) (de_tup (da_cons (de_var (pe_var (i := 10) rfl (.inl rfl))) (da_cons (de_lend (de_of_do (do_methD (mets_LogNote_mark C) (de_var (pe_var (i := 5) rfl (.inl rfl))) (ok_LogNote_mark C) rfl hg (hr.mono (by decide)) (b_LogNote_mark C) .nil (fun _ => rfl) hx (dx_cons (de_var (pe_var (i := 10) rfl (.inl rfl))) dx_nil)))) (da_cons (de_callB call_len cd_len rfl (m_len C) rfl (da_cons (de_var (pe_var (i := 6) rfl (.inl rfl))) da_nil)) da_nil))))))))
    (dss_cons (ds_if (DW.t (dw_and (dt_lend (dt_cm (cm_ne (hr).units) (de_var (pe_var (i := 7) rfl (.inl rfl))) (de_lst da_nil) rfl)) (dw_and1 (dt_cm (cm_eq (hr).units) (de_of_do (do_callN (ok__law_take C) rfl hg (hr.mono (by decide)) rfl (m__law_take C) (fD__law_take C).kp (b__law_take C) .nil (fun _ => rfl) hx (dx_io (pe_var (i := 1) rfl (.inl rfl)) (dx_cons de_int dx_nil)))) de_int rfl)))) (dss_one (ds_pop (pe_var (i := 7) rfl (.inl rfl)) (de_of_do (do_callN (ok__law_take C) rfl hg (hr.mono (by decide)) rfl (m__law_take C) (fD__law_take C).kp (b__law_take C) .nil (fun _ => rfl) hx (dx_io (pe_var (i := 1) rfl (.inl rfl)) (dx_cons (de_lend (de_callB call_len cd_len rfl (m_len C) rfl (da_cons (de_var (pe_var (i := 7) rfl (.inl rfl))) da_nil))) dx_nil)))))) dss_nil)
    (dss_cons (ds_if (dt_not (dt_val (de_lend (de_of_do (do_callN (ok__law_copies_right C) rfl hg (hr.mono (by decide)) rfl (m__law_copies_right C) (fD__law_copies_right C).kp (b__law_copies_right C) .nil (fun _ => rfl) hx (dx_cons (de_var (pe_var (i := 5) rfl (.inl rfl))) (dx_cons (de_var (pe_var (i := 2) rfl (.inl rfl))) (dx_cons (de_var (pe_var (i := 4) rfl (.inr (.inl rfl)))) (dx_cons (de_var (pe_var (i := 6) rfl (.inl rfl))) (dx_cons (de_var (pe_var (i := 7) rfl (.inl rfl))) dx_nil)))))))))) (dss_one (ds_ret de_bl)) dss_nil)
    (dss_cons (ds_if (dt_cm (cm_ne (hr).units) (de_lcN (own := [("_law_row", 16)]) rfl rfl sc_law.nd (di_seq (de_pkFld (C.flds ocl_rows_ok) (pe_var (i := 5) rfl (.inl rfl)))) (blkOk_by (by kernel_rfl)) (fun _ _ _ _ _ => (dg_name sc_law.nd rfl (.inl rfl) rfl)) (fun _ _ _ _ _ => (dts_one (dt_cm cm_gt (de_callB call_len cd_len rfl (m_len C) rfl (da_cons (de_var (pe_var (i := 16) rfl (.inl rfl))) da_nil)) (de_callB call_len cd_len rfl (m_len C) rfl (da_cons (de_var (pe_var (i := 4) rfl (.inr (.inl rfl)))) da_nil)) rfl))) (fun _ _ _ _ _ => (de_var (pe_var (i := 16) rfl (.inl rfl))))) (de_lst da_nil) rfl) (dss_one (ds_ret de_bl)) dss_nil)
    (dss_cons (ds_set sc_law.nd rfl (.inl rfl) rfl (de_of_do (do_callN (ok__law_take C) rfl hg (hr.mono (by decide)) rfl (m__law_take C) (fD__law_take C).kp (b__law_take C) .nil (fun _ => rfl) hx (dx_io (pe_var (i := 1) rfl (.inl rfl)) (dx_cons (de_callB call_len cd_len rfl (m_len C) rfl (da_cons (de_var (pe_var (i := 2) rfl (.inl rfl))) da_nil)) dx_nil)))))
    (dss_cons (ds_expr (de_of_do (do_meth (mets_LogNote_put C) (pe_var (i := 5) rfl (.inl rfl)) (ok_LogNote_put C) rfl hg (hr.mono (by decide)) (b_LogNote_put C) .nil (fun _ => rfl) hx (dx_cons (de_var (pe_var (i := 11) rfl (.inl rfl))) dx_nil))))
    (dss_one (ds_set sc_law.nd rfl (.inl rfl) rfl (de_add (de_var (pe_var (i := 6) rfl (.inl rfl))) (de_tup (da_cons (de_var (pe_var (i := 11) rfl (.inl rfl))) da_nil)))))))))))))
    (dss_cons (ds_setO sc_law.nd rfl (.inl rfl) rfl do_dnewT)
    (dss_cons (ds_for hp rfl (di_seq (de_varF (pe_var (i := 7) rfl (.inl rfl)))) (dg_tup rfl (dgs_cons (dg_name sc_law.nd rfl (.inl rfl) rfl) (dgs_cons (dg_name sc_law.nd rfl (.inl rfl) rfl) (dgs_cons (dg_name sc_law.nd rfl (.inl rfl) rfl) dgs_nil)))) (dss_cons (ds_set sc_law.nd rfl (.inl rfl) rfl (de_of_do (do_callN (ok__law_led C) rfl hg (hr.mono (by decide)) rfl (m__law_led C) (fD__law_led C).kp (b__law_led C) .nil (fun _ => rfl) hx (dx_cons (de_var (pe_var (i := 2) rfl (.inl rfl))) (dx_cons (de_var (pe_var (i := 10) rfl (.inl rfl))) (dx_cons (de_sl (de_var (pe_var (i := 6) rfl (.inl rfl))) (dp_some (de_var (pe_var (i := 14) rfl (.inl rfl)))) dp_none) dx_nil))))))
    (dss_cons (ds_if (DW.t (dw_or (dt_cm (cm_ne (hr).units) (de_pkGetT (u65 (hr)) (pe_var (i := 12) rfl (.inl rfl)) (da_cons (de_var (pe_var (i := 10) rfl (.inl rfl))) (da_cons (de_var (pe_var (i := 13) rfl (.inl rfl))) da_nil)) (de_var (pe_var (i := 15) rfl (.inl rfl))) ⟨rfl, rfl, rfl, rfl⟩) (de_var (pe_var (i := 15) rfl (.inl rfl))) rfl) (dw_or1 (dt_cm (cm_ne (hr).units) (de_lend (de_of_do ((db_LogNote_read_3 C).elim fun _ hdb => do_methD (mets_LogNote_read C) (de_var (pe_var (i := 5) rfl (.inl rfl))) (ok_LogNote_read C) rfl hg (hr.mono (by decide)) hdb.2 hdb.1 (dd_LogNote_read_3 C) hx (dx_cons (de_var (pe_var (i := 10) rfl (.inl rfl))) (dx_cons (de_var (pe_var (i := 13) rfl (.inl rfl))) dx_nil))))) (de_var (pe_var (i := 15) rfl (.inl rfl))) rfl)))) (dss_one (ds_ret de_bl)) dss_nil)
    (dss_one (ds_dputT (u65 (hr)) (pe_var (i := 12) rfl (.inl rfl)) (de_var (pe_var (i := 15) rfl (.inl rfl))) (da_cons (de_var (pe_var (i := 10) rfl (.inl rfl))) (da_cons (de_var (pe_var (i := 13) rfl (.inl rfl))) da_nil)))))))
    (dss_one (ds_ret de_bl)))))))))
def S_law : List EV → Out EV := fnS 1 17 Pn F_law
theorem ok_law (C : Cfx cfg K mg base) : FnG cfg.prog w K mg base 8 (He.fAd K ("law", none)) (fdOf K ("law", none)) ["_law_script"] S_law :=
  fnG_ofC (fD_law C) sc_law (by decide) fun A outer s H E hg hr => d_law C A outer s H E hg hr
end
end K32

namespace K32
open PySem PyProof.Rows L2 DL
theorem wp_out {α : Type} {o : Out α} {Q : α → List EV → Prop} (h : o.wp Q fun _ _ => False) : ∃ a e, o = .ok a e ∧ Q a e := by
  cases o with
  | ok a e => exact ⟨a, e, rfl, h⟩
  | ex x e => exact h.elim
  | no => exact h.elim
abbrev bx (g c : Int) : EV := .ol [.v (.int g), .v (.int c)]
theorem take_sp (g c m : Int) (h0 : 0 < m) (h1 : m < 1073741824) : (S__law_take [bx g c, .v (.int m)]).wp (fun r os => ∃ i g' c' : Int, r = .v (.int i) ∧ os = [bx g' c', .un] ∧ 0 ≤ i ∧ i < m) fun _ _ => False := by
  unfold S__law_take F__law_take
  simp [h0, h1, atI, ixN, outs]
  by_cases hg : g ≤ 0
  · exact .inl ⟨hg, Int.emod_nonneg _ (by omega), Int.emod_lt_of_pos _ h0⟩
  · exact .inr ⟨by omega, Int.emod_nonneg _ (by omega), Int.emod_lt_of_pos _ h0⟩
theorem pick_sp (g c : Int) (xs : List D) (h0 : 0 < xs.length) (h1 : xs.length < 1073741824) : (S__law_pick [bx g c, .v (.lst xs)]).wp (fun r os => ∃ d g' c', r = .v d ∧ os = [bx g' c', .un] ∧ d ∈ xs) fun _ _ => False := by
  unfold S__law_pick F__law_pick
  simp [takeA, isOwn]
  refine (take_sp g c xs.length (by omega) (by omega)).mono (fun r os h => ?_) fun _ _ h => h.elim
  obtain ⟨i, g', c', rfl, rfl, hi, hj⟩ := h
  simp [putA, atI, ixN, hi, hj, outs]
theorem box_sp (ns : List Int) (k : Int) (hk : 0 ≤ k) (hn : ns.length < 1000) : (S__law_box [.v (.scr ns), .v (.int k)]).wp (fun r os => ∃ g c, r = bx g c) fun _ _ => False := by
  unfold S__law_box F__law_box
  by_cases h : k < ns.length
  · obtain ⟨h2, e⟩ := atI_get (us := ns) hk h
    simp [e, outs, h, Int.not_le.mpr h]
    omega
  · by_cases hz : ns.length = 0
    · have e : ns = [] := List.length_eq_zero_iff.mp hz
      subst e
      simp [outs, hk]
      omega
    · have hp : (0 : Int) < ns.length := by omega
      obtain ⟨h2, e⟩ := atI_get (us := ns) (i := k % ns.length) (Int.emod_nonneg _ (by omega)) (Int.emod_lt_of_pos _ hp)
      have hp2 : 0 < ns.length := by omega
      simp [e, outs, h, Int.not_lt.mp h, hp2]
      omega
end K32

namespace K32
open PySem PyProof.Rows L2 DL
abbrev nD (n : Nat) : D := .int n
abbrev rowD (r : List Nat) : D := .tup (r.map nD)
structure TOk (m : Nat) (ts : List (List Nat)) : Prop where
  m1 : 1 ≤ m
  m5 : m ≤ 5
  t1 : 1 ≤ ts.length
  t3 : ts.length ≤ 3
  rows : ∀ r ∈ ts, r.length = m ∧ ∀ x ∈ r, x < m
def TI (m n : Nat) (rest : List D) (e : List EV) : Prop := ∃ (ts : List (List Nat)) (g c : Int) (s3 s4 s5 s6 : EV), e = [bx g c, .v (nD m), .ol ((ts.map rowD).map .v), s3, s4, s5, s6, .un] ∧ (∀ r ∈ ts, r.length = m ∧ ∀ x ∈ r, x < m) ∧ ts.length + rest.length = n
def RowOk (m : Nat) (ds : List D) : Prop := ∃ r : List Nat, ds = r.map nD ∧ r.length = m ∧ ∀ x ∈ r, x < m
theorem lc_row {v m : Nat} {Fe : M D} {e : List EV} {Q : List D → List EV → Prop} {X : XV → List EV → Prop} (hm : m < 1000) (I : List EV → Prop)
    (hs : ∀ s : Nat, s < m → ∀ e, I e → ∃ e1, put v (nD s) e = some e1 ∧ (Fe e1).wp (fun x e3 => (∃ n : Nat, n < m ∧ x = nD n) ∧ I (wipeE e3 [v])) fun _ _ => False) (h0 : I (wipeE e [v]))
    (hq : ∀ ds e1, I e1 → RowOk m ds → wpO (backE e e1 [v]) fun e2 => Q ds e2) : (lcB [v] (put v) trueT Fe (rgD 0 m) e).wp Q X := by
  refine lcB_wp (I := fun rest acc e1 => I e1 ∧ ∃ r : List Nat, acc = r.map nD ∧ (∀ x ∈ r, x < m) ∧ r.length + rest.length = m ∧ ∃ l : List Nat, rest = l.map nD ∧ ∀ x ∈ l, x < m) (fun d rest acc e1 h => ?_) (fun acc e1 h => ?_) ⟨h0, [], rfl, (fun x hx => by cases hx), ?_, ?_⟩
  · obtain ⟨h1, r, rfl, hr, hl, l, h2, h3⟩ := h
    cases l with
    | nil => cases h2
    | cons s l =>
      cases h2
      obtain ⟨e2, g1, g2⟩ := hs s (h3 s (List.mem_cons_self ..)) e1 h1
      refine ⟨e2, g1, ?_⟩
      rw [wp_trueT, if_pos rfl]
      refine g2.mono (fun x e3 hx => ?_) fun _ _ h => h
      obtain ⟨⟨n, hn, rfl⟩, hi⟩ := hx
      simp only [List.length_cons, List.length_map] at hl ⊢
      refine ⟨by omega, hi, r ++ [n], by simp, fun x hx => ?_, by simp; omega, l, rfl, fun x hx => h3 x (List.mem_cons_of_mem _ hx)⟩
      rcases List.mem_append.mp hx with z | z
      · exact hr x z
      · rw [List.mem_singleton.mp z]; exact hn
  · obtain ⟨h1, r, rfl, hr, hl, _⟩ := h
    exact hq _ e1 h1 ⟨r, rfl, by simpa using hl, hr⟩
  · simp [rgD]
  · refine ⟨List.range m, ?_, fun x hx => List.mem_range.mp hx⟩
    unfold rgD
    apply List.ext_getElem
    · simp
    · intro i h1 h2
      simp
theorem tables_sp (g c : Int) : (S__law_tables [bx g c]).wp (fun r os => ∃ m ts g' c', TOk m ts ∧ r = .v (.lst (ts.map rowD)) ∧ os = [bx g' c']) fun _ _ => False := by
  unfold S__law_tables F__law_tables
  simp [takeA, isOwn]
  refine (pick_sp g c _ (by decide) (by decide)).mono (fun r os h => ?_) fun _ _ h => h.elim
  obtain ⟨d, g, c, rfl, rfl, hd⟩ := h
  have hm : ∃ m : Nat, d = nD m ∧ 1 ≤ m ∧ m ≤ 5 := by
    simp at hd
    rcases hd with h | h | h | h | h | h <;> exact ⟨_, h, by decide, by decide⟩
  obtain ⟨m, rfl, hm1, hm5⟩ := hm
  clear hd
  simp [putA, parL, putE, takeA, isOwn]
  refine (pick_sp g c _ (by decide) (by decide)).mono (fun r os h => ?_) fun _ _ h => h.elim
  obtain ⟨d, g, c, rfl, rfl, hd⟩ := h
  have hm : ∃ n : Nat, d = nD n ∧ 1 ≤ n ∧ n ≤ 3 := by
    simp at hd
    rcases hd with h | h | h <;> exact ⟨_, h, by decide, by decide⟩
  obtain ⟨n, rfl, hn1, hn3⟩ := hm
  clear hd
  simp [putA]
  refine ⟨by unfold small62; simp; omega, forM_wp (TI m n) (fun d rest e h => ?_) (fun e h => ?_) ⟨[], g, c, .un, .un, .un, .un, rfl, (fun r hr => by cases hr), by simp [rgD]⟩⟩
  · obtain ⟨ts, g, c, s3, s4, s5, s6, rfl, hr, hl⟩ := h
    rw [List.length_cons] at hl
    refine ⟨_, rfl, ?_⟩
    simp [-List.map_map, takeA, isOwn]
    refine (take_sp g c 6 (by decide) (by decide)).mono (fun r os h => ?_) fun _ _ h => h.elim
    obtain ⟨st, g, c, rfl, rfl, hs0, hs6⟩ := h
    simp [-List.map_map, putA, takeA, isOwn]
    refine (take_sp g c m (by omega) (by omega)).mono (fun r os h => ?_) fun _ _ h => h.elim
    obtain ⟨by_, g, c, rfl, rfl, hb0, hb1⟩ := h
    simp [-List.map_map, putA, parL, putE, takeA, isOwn]
    have hst : st = 0 ∨ st = 1 ∨ st = 2 ∨ st = 3 ∨ (¬ st = 0 ∧ ¬ st = 1 ∧ ¬ st = 2 ∧ ¬ st = 3) := by omega
    have sm : small62 (m : Int) = true := by unfold small62; simp; omega
    obtain ⟨b, rfl⟩ : ∃ b : Nat, by_ = b := ⟨by_.toNat, by omega⟩
    have fin : ∀ ds s4 s5 s6 g c, RowOk m ds → TI m n rest [bx g c, .v (nD m), .ol (List.map EV.v (List.map rowD ts) ++ [.v (.tup ds)]), .v d, s4, s5, s6, .un] := by
      rintro ds s4 s5 s6 g c ⟨r, rfl, h1, h2⟩
      exact ⟨ts ++ [r], g, c, .v d, s4, s5, s6, by simp, (fun x hx => by
        rcases List.mem_append.mp hx with z | z
        · exact hr x z
        · rw [List.mem_singleton.mp z]; exact ⟨h1, h2⟩), by simp; omega⟩
    have tl : ts.length < 16777216 := by omega
    have lc : ∀ (g c : Int) (Fe : M D) (s4 s5 s6 : EV), (∀ s : Nat, s < m → (Fe [bx g c, .v (nD m), .ol ((ts.map rowD).map .v), .v d, s4, s5, s6, .v (nD s)]).wp (fun x e3 => (∃ n : Nat, n < m ∧ x = nD n) ∧ wipeE e3 [7] = [bx g c, .v (nD m), .ol ((ts.map rowD).map .v), .v d, s4, s5, s6, .un]) fun _ _ => False) →
        (lcB [7] (put 7) trueT Fe (rgD 0 m) [bx g c, .v (nD m), .ol ((ts.map rowD).map .v), .v d, s4, s5, s6, .un]).wp (fun ds e1 => wpO (plE e1[2]?) fun ds_1 => ds_1.length < 16777216 ∧ TI m n rest (e1.set 2 (EV.ol (List.map EV.v ds_1 ++ [EV.v (D.tup ds)])))) fun _ _ => False := fun g c Fe s4 s5 s6 hF => by
      refine lc_row (by omega) (fun e => e = [bx g c, .v (nD m), .ol ((ts.map rowD).map .v), .v d, s4, s5, s6, .un]) (fun s hs e he => ?_) rfl (fun ds e1 he hR => ?_)
      · subst he
        exact ⟨_, rfl, hF s hs⟩
      · subst he
        simp [-List.map_map, backE, tl]
        exact fin _ _ _ _ _ _ hR
    rcases hst with rfl | rfl | rfl | rfl | ⟨h0, h1, h2, h3⟩
    · simp [-List.map_map, sm]
      refine lc _ _ _ _ _ _ fun s hs => ?_
      simp [-List.map_map, wipeE, hm1]
      refine ⟨by omega, (s + 1 + b) % m, Nat.mod_lt _ (by omega), by simp⟩
    · simp [-List.map_map, sm]
      refine lc _ _ _ _ _ _ fun s hs => ?_
      simp [-List.map_map, wipeE]
      refine ⟨min (m - 1) (s + 1), by omega, ?_⟩
      split <;> omega
    · simp [-List.map_map, sm]
      refine lc _ _ _ _ _ _ fun s hs => ?_
      simp [-List.map_map, wipeE]
      exact ⟨b, by omega, rfl⟩
    · simp [-List.map_map]
      refine (take_sp g c m (by omega) (by omega)).mono (fun r os h => ?_) fun _ _ h => h.elim
      obtain ⟨o, g, c, rfl, rfl, ho0, ho1⟩ := h
      obtain ⟨o, rfl⟩ : ∃ k : Nat, o = k := ⟨o.toNat, by omega⟩
      simp [-List.map_map, putA, sm]
      refine lc _ _ _ _ _ _ fun s hs => ?_
      by_cases h1 : s = b
      · simp [-List.map_map, wipeE, h1]
        exact ⟨o, by omega, rfl⟩
      · by_cases h2 : s = o
        · simp [-List.map_map, wipeE, h1, h2]
          by_cases h3 : (o : Int) = b
          · exact .inr ⟨h3, o, by omega, rfl⟩
          · exact .inl ⟨h3, b, by omega, rfl⟩
        · simp [-List.map_map, wipeE, h1, h2]
          exact .inl ⟨by omega, .inl ⟨by omega, s, by omega, rfl⟩⟩
    · simp [-List.map_map, h0, h1, h2, h3, sm]
      refine lc_row (by omega) (fun e => ∃ g c, e = [bx g c, .v (nD m), .ol ((ts.map rowD).map .v), .v d, .v (.int st), .v (nD b), s6, .un]) (fun s hs e he => ?_) ⟨g, c, rfl⟩ (fun ds e1 he hR => ?_)
      · obtain ⟨g, c, rfl⟩ := he
        refine ⟨_, rfl, ?_⟩
        simp [-List.map_map, takeA, isOwn]
        refine (take_sp g c m (by omega) (by omega)).mono (fun r os h => ?_) fun _ _ h => h.elim
        obtain ⟨o, g, c, rfl, rfl, ho0, ho1⟩ := h
        obtain ⟨o, rfl⟩ : ∃ k : Nat, o = k := ⟨o.toNat, by omega⟩
        simp [-List.map_map, putA, wipeE]
        exact ⟨o, by omega, rfl⟩
      · obtain ⟨g, c, rfl⟩ := he
        simp [-List.map_map, backE, tl]
        exact fin _ _ _ _ _ _ hR
  · obtain ⟨ts, g, c, s3, s4, s5, s6, rfl, hr, hl⟩ := h
    simp [-List.map_map, outs]
    exact ⟨m, ts, ⟨hm1, hm5, by simp at hl; omega, by simp at hl; omega, hr⟩, rfl⟩
end K32

namespace K32
open PySem PyProof.Rows L2 DL
def seqD : D → Bool
  | .lst _ => true
  | .tup _ => true
  | .scr _ => true
  | _ => false
def intD : D → Bool
  | .int _ => true
  | _ => false
def numD : D → Bool
  | .int i => decide (0 ≤ i)
  | _ => false
def blwD (d : D) (k : Int) : Bool := match d with
  | .int i => decide (0 ≤ i) && decide (i < k)
  | _ => false
theorem is_seq (d : D) (h : tyN d ≠ none) {Q : EV → List EV → Prop} {X : XV → List EV → Prop} : (S_is_sequence [.v d]).wp Q X = Q (.v (.bl (seqD d))) [.un] := by
  unfold S_is_sequence F_is_sequence
  cases d <;> first | exact absurd rfl h | simp [gIsi, tyN, isTys, isTy, outs, seqD]
theorem is_int (d : D) (h : tyN d ≠ none) {Q : EV → List EV → Prop} {X : XV → List EV → Prop} : (S_is_integer [.v d]).wp Q X = Q (.v (.bl (intD d))) [.un] := by
  unfold S_is_integer F_is_integer
  cases d <;> first | exact absurd rfl h | simp [gIsi, tyN, isTy, outs, intD]
theorem is_num (d : D) (h : tyN d ≠ none) {Q : EV → List EV → Prop} {X : XV → List EV → Prop} : (S_is_number [.v d]).wp Q X = Q (.v (.bl (numD d))) [.un] := by
  unfold S_is_number F_is_number
  simp [takeA, putA, is_int d h]
  cases d <;> first | exact absurd rfl h | simp [intD, outs, numD]
theorem is_blw (d : D) (k : Int) (h : tyN d ≠ none) {Q : EV → List EV → Prop} {X : XV → List EV → Prop} : (S_is_below [.v d, .v (.int k)]).wp Q X = Q (.v (.bl (blwD d k))) [.un, .un] := by
  unfold S_is_below F_is_below
  simp [takeA, putA, is_num d h]
  cases d with
  | int i => by_cases h : 0 ≤ i <;> simp [numD, blwD, outs, h]
  | _ => first | exact absurd rfl h | simp [numD, blwD, outs]
abbrev macD (m : Nat) (ts : List (List Nat)) : D := .ins "Machine" ["tables", "deeds", "states"] [.tup (ts.map rowD), nD ts.length, nD m]
theorem tyN_n (n : Nat) : tyN (nD n) ≠ none := fun z => by cases z
theorem is_tab (m : Nat) (r : List Nat) (h1 : r.length = m) (h2 : ∀ x ∈ r, x < m) (hm : m < 1000) {Q : EV → List EV → Prop} {X : XV → List EV → Prop} (hq : Q (.v (.bl true)) [.un, .un]) : (S_is_table [.v (rowD r), .v (nD m)]).wp Q X := by
  unfold S_is_table F_is_table
  simp [takeA, putA, is_seq (rowD r) (fun z => by cases z), seqD, h1]
  refine lc_map (fun _ => true) (fun _ => .bl true) (fun d hd => ?_) ?_ ?_
  · obtain ⟨x, hx, rfl⟩ := List.mem_map.mp hd
    refine ⟨_, rfl, ?_⟩
    simp [takeA, putA, is_blw _ _ (tyN_n x), wipeE, blwD, h2 x hx]
  · simp; omega
  · simp [wipeE, backE, outs]
    exact hq
def CkI (ts : List (List Nat)) (m : Nat) (rest : List D) (e : List EV) : Prop := ∃ s2 s3, e = [.v (.lst (ts.map rowD)), .v (nD m), s2, s3] ∧ (∀ x ∈ rest, ∃ i r, x = .pr (.int i) (rowD r) ∧ r ∈ ts) ∧ (s3 = .un ∨ ∃ d, s3 = .v d)
theorem enD_rows (ts : List (List Nat)) : ∀ x ∈ enD (ts.map rowD), ∃ i r, x = .pr (.int i) (rowD r) ∧ r ∈ ts := by
  intro x hx
  unfold enD at hx
  obtain ⟨k, hk, e⟩ := List.mem_iff_getElem.mp hx
  rw [List.getElem_zipWith] at e
  subst e
  simp only [List.getElem_map]
  exact ⟨_, _, rfl, List.getElem_mem _⟩
theorem chk_tabs {m : Nat} {ts : List (List Nat)} (t : TOk m ts) {Q : EV → List EV → Prop} {X : XV → List EV → Prop} (hq : Q (.v (.tup (ts.map rowD))) [.un]) : (S_check_tables [.v (.lst (ts.map rowD))]).wp Q X := by
  unfold S_check_tables F_check_tables
  have ht : ∃ r0 rs, ts = r0 :: rs := by
    cases ts with
    | nil => exact absurd t.t1 (by decide)
    | cons r0 rs => exact ⟨r0, rs, rfl⟩
  obtain ⟨r0, rs, rfl⟩ := ht
  have h0 := (t.rows r0 (List.mem_cons_self ..)).1
  have h3 := t.t3
  have m1 := t.m1
  have m5 := t.m5
  rw [List.length_cons] at h3
  have c1 : ¬ ((rs.length : Int) + 1 < 1) := by omega
  have c2 : (1 : Int) ≤ rs.length + 1 := by omega
  have c3 : ¬ ((8 : Int) < rs.length + 1) := by omega
  have c4 : (rs.length : Int) + 1 ≤ 8 := by omega
  have c5 : atI ((r0 :: rs).map rowD) 0 = some (rowD r0) := by
    obtain ⟨_, e⟩ := atI_get (us := (r0 :: rs).map rowD) (i := 0) (by decide) (by simp <;> omega)
    rw [e]
    rfl
  simp [-List.map_cons, takeA, putA, is_seq (.lst ((r0 :: rs).map rowD)) (fun z => by cases z), is_seq (rowD r0) (fun z => by cases z), seqD, c1, c2, c3, c4, c5, h0]
  refine forM_wp (CkI (r0 :: rs) m) (fun d rest e h => ?_) (fun e h => ?_) ⟨_, _, rfl, enD_rows _, .inl rfl⟩
  · obtain ⟨s2, s3, rfl, hx, _⟩ := h
    obtain ⟨i, r, rfl, hr⟩ := hx d (List.mem_cons_self ..)
    refine ⟨_, rfl, ?_⟩
    have d1 : (1 : Int) ≤ m := by omega
    have d2 : (m : Int) ≤ 12 := by omega
    simp [-List.map_cons, d1, d2, takeA, putA]
    refine is_tab m r (t.rows r hr).1 (t.rows r hr).2 (by omega) ?_
    simp [-List.map_cons, putA]
    exact ⟨_, _, rfl, fun x hx2 => hx x (List.mem_cons_of_mem _ hx2), .inr ⟨_, rfl⟩⟩
  · obtain ⟨s2, s3, rfl, hx, h3⟩ := h
    simp [-List.map_cons]
    refine lc_map (fun _ => true) id (fun d hd => ?_) (by simp; omega) ?_
    · obtain ⟨x, hx, rfl⟩ := List.mem_map.mp hd
      refine ⟨_, rfl, ?_⟩
      simp [-List.map_cons, wipeE]
    · have e : ((r0 :: rs).map rowD).filter (fun _ => true) = (r0 :: rs).map rowD := List.filter_eq_self.mpr fun _ _ => rfl
      rw [e, List.map_id]
      rcases h3 with rfl | ⟨d, rfl⟩ <;> (simp [-List.map_cons, wipeE, backE, outs]; exact hq)
end K32

namespace K32
open PySem PyProof.Rows L2 DL
def rowOf (ts : List (List Nat)) (d : Nat) : List Nat := ts.getD d []
def cel (ts : List (List Nat)) (d s : Nat) : Nat := (rowOf ts d).getD s 0
def led (ts : List (List Nat)) (s : Nat) (log : List Nat) : Nat := log.foldl (fun s d => cel ts d s) s
theorem atI_n {xs : List D} {k : Nat} {d : D} (h : xs[k]? = some d) : atI xs (k : Int) = some d := by
  have hk : k < xs.length := by
    rcases Nat.lt_or_ge k xs.length with z | z
    · exact z
    · rw [List.getElem?_eq_none z] at h; cases h
  obtain ⟨_, e⟩ := atI_get (us := xs) (i := k) (by omega) (by omega)
  rw [e, ← h]
  simp
theorem row_at {m : Nat} {ts : List (List Nat)} (t : TOk m ts) {d : Nat} (hd : d < ts.length) : atI (ts.map rowD) (d : Int) = some (rowD (rowOf ts d)) := atI_n (by simp [rowOf, hd])
theorem row_ok {m : Nat} {ts : List (List Nat)} (t : TOk m ts) {d : Nat} (hd : d < ts.length) : (rowOf ts d).length = m ∧ ∀ x ∈ rowOf ts d, x < m := by
  have e : rowOf ts d = ts[d] := by simp [rowOf, hd]
  rw [e]
  exact t.rows _ (List.getElem_mem _)
theorem in_row {r : List Nat} {s : Nat} (h : s < r.length) : (r.map nD)[s]? = some (nD (r.getD s 0)) ∧ r.getD s 0 ∈ r := by
  have e : r.getD s 0 = r[s] := by simp [h]
  rw [e]
  exact ⟨by simp [h], List.getElem_mem _⟩
theorem cell_at {m : Nat} {ts : List (List Nat)} (t : TOk m ts) {d s : Nat} (hd : d < ts.length) (hs : s < m) : atI ((rowOf ts d).map nD) (s : Int) = some (nD (cel ts d s)) ∧ cel ts d s < m := by
  obtain ⟨h1, h2⟩ := row_ok t hd
  obtain ⟨h3, h4⟩ := in_row (r := rowOf ts d) (s := s) (by omega)
  exact ⟨atI_n h3, h2 _ h4⟩
theorem led_lt {m : Nat} {ts : List (List Nat)} (t : TOk m ts) : ∀ {log : List Nat} {s : Nat}, s < m → (∀ d ∈ log, d < ts.length) → led ts s log < m
  | [], s, hs, _ => hs
  | d :: log, s, hs, h => led_lt t (log := log) (cell_at t (h d (List.mem_cons_self ..)) hs).2 fun x hx => h x (List.mem_cons_of_mem _ hx)
def LedI (ts : List (List Nat)) (m : Nat) (R L : D) (z : Nat) (rest : List D) (e : List EV) : Prop := ∃ (l : List Nat) (s' : Nat) (s3 : EV), rest = l.map nD ∧ (∀ d ∈ l, d < ts.length) ∧ s' < m ∧ led ts s' l = z ∧ e = [.v R, .v (nD s'), .v L, s3]
theorem led_sp {m : Nat} {ts : List (List Nat)} (t : TOk m ts) {log : List Nat} {s : Nat} (hs : s < m) (hl : ∀ d ∈ log, d < ts.length) {L : D} (hL : itemsOf L = some (log.map nD)) {Q : EV → List EV → Prop} {X : XV → List EV → Prop}
    (hq : Q (.v (nD (led ts s log))) [.un, .un, .un]) : (S__law_led [.v (.lst (ts.map rowD)), .v (nD s), .v L]).wp Q X := by
  unfold S__law_led F__law_led
  simp [hL]
  refine forM_wp (LedI ts m (.lst (ts.map rowD)) L (led ts s log)) (fun d rest e h => ?_) (fun e h => ?_) ⟨log, s, _, rfl, hl, hs, rfl, rfl⟩
  · obtain ⟨l, s', s3, h1, h2, h3, h4, rfl⟩ := h
    cases l with
    | nil => cases h1
    | cons k l =>
      cases h1
      have hk := h2 k (List.mem_cons_self ..)
      refine ⟨_, rfl, ?_⟩
      simp [row_at t hk, (cell_at t hk h3).1]
      exact ⟨l, _, _, rfl, fun x hx => h2 x (List.mem_cons_of_mem _ hx), (cell_at t hk h3).2, h4, rfl⟩
  · obtain ⟨l, s', s3, h1, h2, h3, h4, rfl⟩ := h
    cases l with
    | nil =>
      have h4 : s' = led ts s log := h4
      subst h4
      simpa [outs] using hq
    | cons k l => cases h1
theorem behind_sp {m : Nat} {ts : List (List Nat)} (t : TOk m ts) {log : List Nat} {s : Nat} (hs : s < m) (hl : ∀ d ∈ log, d < ts.length) {L : D} (hL : itemsOf L = some (log.map nD)) {Q : EV → List EV → Prop} {X : XV → List EV → Prop}
    (hq : Q (.v (nD (led ts s log))) [.un, .un, .un]) : (S_behind [.v (.tup (ts.map rowD)), .v (nD s), .v L]).wp Q X := by
  unfold S_behind F_behind
  simp [hL]
  refine forM_wp (LedI ts m (.tup (ts.map rowD)) L (led ts s log)) (fun d rest e h => ?_) (fun e h => ?_) ⟨log, s, _, rfl, hl, hs, rfl, rfl⟩
  · obtain ⟨l, s', s3, h1, h2, h3, h4, rfl⟩ := h
    cases l with
    | nil => cases h1
    | cons k l =>
      cases h1
      have hk := h2 k (List.mem_cons_self ..)
      refine ⟨_, rfl, ?_⟩
      simp [row_at t hk, (cell_at t hk h3).1]
      exact ⟨l, _, _, rfl, fun x hx => h2 x (List.mem_cons_of_mem _ hx), (cell_at t hk h3).2, h4, rfl⟩
  · obtain ⟨l, s', s3, h1, h2, h3, h4, rfl⟩ := h
    cases l with
    | nil =>
      have h4 : s' = led ts s log := h4
      subst h4
      simpa [outs] using hq
    | cons k l => cases h1
theorem mach_sp {m : Nat} {ts : List (List Nat)} (t : TOk m ts) {Q : EV → List EV → Prop} {X : XV → List EV → Prop} (hq : Q (.v .non) [.oi "Machine" ["tables", "deeds", "states"] [.v (.tup (ts.map rowD)), .v (nD ts.length), .v (nD m)], .un]) :
    (S_Machine___init__ [.oi "Machine" [] [], .v (.lst (ts.map rowD))]).wp Q X := by
  unfold S_Machine___init__ F_Machine___init__
  have hr : ∃ r0 rs, ts = r0 :: rs := by
    cases ts with
    | nil => exact absurd t.t1 (by decide)
    | cons r0 rs => exact ⟨r0, rs, rfl⟩
  have n1 : ¬ ("tables" : Str) = "deeds" := by decide
  have n2 : ¬ ("tables" : Str) = "states" := by decide
  have n3 : ¬ ("deeds" : Str) = "states" := by decide
  have e0 : atI (ts.map rowD) 0 = some (rowD (rowOf ts 0)) := row_at t (d := 0) t.t1
  have e1 : (rowOf ts 0).length = m := (row_ok t (d := 0) t.t1).1
  simp [takeA]
  refine chk_tabs t ?_
  simp [putA, ocl, DL.putK, putN, lookF, n1, n2, n3, e0, e1, outs]
  exact hq
end K32

/-! ### backwards through the newer pieces -/
namespace DL
open PySem PyProof.Rows L2
section
variable {e : List EV} {Q : D → List EV → Prop} {X : XV → List EV → Prop} {F Fa Fk Fo : M D} {Fs : M (List D)} {P : Pe}
@[simp] theorem wp_lendM : (lendM F e).wp Q X = (F (lendE e)).wp (fun d _ => scal d = true ∧ Q d e) fun _ _ => False := by
  unfold lendM
  cases F (lendE e) with
  | ok d e1 =>
    by_cases h : scal d = true
    · show Out.wp (if scal d = true then _ else _) _ _ = _
      rw [if_pos h]
      exact propext ⟨fun z => ⟨h, z⟩, fun z => z.2⟩
    · show Out.wp (if scal d = true then _ else _) _ _ = _
      rw [if_neg h]
      exact propext ⟨fun z => z.elim, fun z => absurd z.1 h⟩
  | ex x e1 => rfl
  | no => rfl
@[simp] theorem wp_lendT {F : M Bool} {Q : Bool → List EV → Prop} : (lendT F e).wp Q X = (F (lendE e)).wp (fun b _ => Q b e) fun _ _ => False := by
  unfold lendT
  cases F (lendE e) <;> rfl
theorem wp_get1 {Fs : M (List D)} : (get1M (dictM Fs) Fk e).wp Q X = (Fs e).wp (fun ds e1 => ∃ xs, ds = [.tup xs] ∧ wpO (mrg [] [] xs) fun p => (Fk e1).wp (fun k e2 => (keyK k).isSome = true ∧ Q ((getK p.1 p.2 k).getD .non) e2) X) X := by
  unfold get1M dictM
  show Out.wp (Out.bind (bnd Fs _ e) _) Q X = _
  unfold bnd
  cases Fs e with
  | no => rfl
  | ex x e1 => rfl
  | ok ds e1 =>
    show Out.wp (Out.bind (match ds with
      | [.tup xs] => (match mrg [] [] xs with
        | some (ks, vs) => Out.ok (EV.od false ks (vs.map .v)) e1
        | none => .no)
      | _ => .no) _) Q X = _
    show _ = (∃ xs, ds = [.tup xs] ∧ wpO (mrg [] [] xs) _)
    split
    · rename_i xs
      cases z : mrg [] [] xs with
      | none => exact propext ⟨fun h => h.elim, fun ⟨_, h1, _, h2, _⟩ => by cases h1; rw [z] at h2; cases h2⟩
      | some p =>
        obtain ⟨ks, vs⟩ := p
        have key : Out.wp (Out.bind (Out.ok (EV.od false ks (vs.map .v)) e1) fun ev e0 => match ev with
            | .od false ks xs => (Fk e0).bind fun k e => match plainL xs with
              | some ds => if (keyK k).isSome = true then .ok ((getK ks ds k).getD .non) e else .no
              | none => .no
            | _ => .no) Q X = (Fk e1).wp (fun k e2 => (keyK k).isSome = true ∧ Q ((getK ks vs k).getD .non) e2) X := by
          show Out.wp ((Fk e1).bind _) Q X = _
          rw [@plainL_map ⟨fun _ => []⟩ vs]
          cases Fk e1 with
          | no => rfl
          | ex x e2 => rfl
          | ok k e2 =>
            show Out.wp (if (keyK k).isSome = true then _ else _) Q X = _
            by_cases h : (keyK k).isSome = true
            · rw [if_pos h]
              exact propext ⟨fun z => ⟨h, z⟩, fun z => z.2⟩
            · rw [if_neg h]
              exact propext ⟨fun z => z.elim, fun z => absurd z.1 h⟩
        exact key.trans (propext ⟨fun h => ⟨xs, rfl, _, z, h⟩, fun ⟨_, h1, _, h2, h3⟩ => by cases h1; rw [z] at h2; cases h2; exact h3⟩)
    · rename_i hn
      exact propext ⟨fun h => h.elim, fun ⟨xs, h, _⟩ => absurd h (hn xs)⟩
theorem wp_keys {vs : List Nat} {t : TgF} {T : M Bool} {Fv : M D} {Fi : M (List D)} : (keysM (consO (dctO (bnd Fi (dcB vs t T Fk Fv))) nilO) e).wp Q X = (Fi e).wp (fun ds e1 => (dcB vs t T Fk Fv ds e1).wp (fun p e2 => Q (.lst p.1) e2) X) X := by
  unfold keysM consO dctO bnd
  cases Fi e with
  | no => rfl
  | ex x e1 => rfl
  | ok ds e1 =>
    show Out.wp (Out.bind (Out.bind (Out.bind (dcB vs t T Fk Fv ds e1) _) _) _) Q X = (dcB vs t T Fk Fv ds e1).wp _ X
    cases dcB vs t T Fk Fv ds e1 with
    | no => rfl
    | ex x e1 => rfl
    | ok p e2 => rfl
@[simp] theorem wp_consA {a : Arg} {Fx : M (List Arg)} {Q : List Arg → List EV → Prop} : (consA a Fx e).wp Q X = (Fx e).wp (fun as e1 => Q (a :: as) e1) X := by
  unfold consA
  rw [wp_bnd]
  rfl
def wpN (d : D) (Q : Str → List Str → List D → Prop) : Prop := match d with
  | .ins c fn fv => Q c fn fv
  | _ => False
@[simp] theorem wpN_i {c : Str} {fn : List Str} {fv : List D} {Q : Str → List Str → List D → Prop} : wpN (.ins c fn fv) Q = Q c fn fv := rfl
@[simp] theorem wp_methD {cl : List Str} {m : Str} {n : Nat} {S : List EV → Out EV} {dd : List D} {Fx : M (List Arg)} {Q : EV → List EV → Prop} : (methD cl m n S dd Fo Fx e).wp Q X = (Fo e).wp (fun d e1 => wpN d fun c fn fv => (c ∈ cl ∧ m ∉ fn) ∧ (callF n S dd (consA (.d (.ins c fn fv)) Fx) e1).wp Q X) X := by
  unfold methD
  rw [wp_bnd]
  congr 1
  funext d e1
  cases d with
  | ins c fn fv =>
    show Out.wp (if c ∈ cl ∧ m ∉ fn then _ else _) Q X = _
    by_cases h : c ∈ cl ∧ m ∉ fn
    · rw [if_pos h]
      exact propext ⟨fun z => ⟨h, z⟩, fun z => z.2⟩
    · rw [if_neg h]
      exact propext ⟨fun z => z.elim, fun z => absurd z.1 h⟩
  | _ => rfl
@[simp] theorem wp_methF {cl : List Str} {i : Nat} {m : Str} {n : Nat} {S : List EV → Out EV} {dd : List D} {Fx : M (List Arg)} {Q : EV → List EV → Prop} : (methF cl i m n S dd Fx e).wp Q X = wpI e[i]? fun c fn fv => (c ∈ cl ∧ m ∉ fn) ∧ (callF n S dd (consA (.io i) Fx) e).wp Q X := by
  unfold methF getI wpI
  cases e[i]? with
  | none => rfl
  | some ev =>
    cases ev with
    | oi c fn fv =>
      dsimp only
      cases plainL fv with
      | none => exact propext ⟨fun z => z.elim, fun ⟨_, z, _⟩ => by cases z⟩
      | some ds =>
        rw [wpO_some]
        show Out.wp (if c ∈ cl ∧ m ∉ fn then _ else _) Q X = _
        by_cases h : c ∈ cl ∧ m ∉ fn
        · rw [if_pos h]
          exact propext ⟨fun z => ⟨h, z⟩, fun z => z.2⟩
        · rw [if_neg h]
          exact propext ⟨fun z => z.elim, fun z => absurd z.1 h⟩
    | _ => rfl
@[simp] theorem wp_makeK {c : Str} {n m np : Nat} {S : List EV → Out EV} {gD : List D → List D → List D} {Fk : M (List D)} {Q : EV → List EV → Prop} : (makeK c n m np S gD Fs Fk e).wp Q X =
    (Fs e).wp (fun ds e1 => (Fk e1).wp (fun es e2 => (ds.length = n ∧ es.length = m) ∧ (makeF c np S [] (fun e => .ok ((gD ds es).map .d) e) e2).wp Q X) X) X := by
  unfold makeK
  rw [wp_bnd]
  congr 1
  funext ds e1
  rw [wp_bnd]
  congr 1
  funext es e2
  by_cases h : ds.length = n ∧ es.length = m
  · rw [if_pos h]
    exact propext ⟨fun z => ⟨h, z⟩, fun z => z.2⟩
  · rw [if_neg h]
    exact propext ⟨fun z => z.elim, fun z => absurd z.1 h⟩
@[simp] theorem wp_okA {as : List Arg} {Q : List Arg → List EV → Prop} : ((Out.ok as e)).wp Q X = Q as e := rfl
@[simp] theorem wp_dnewO {t : Bool} {Q : EV → List EV → Prop} : (dnewO t e).wp Q X = Q (.od t [] []) e := rfl
/-- self.f += n -/
theorem wp_fldAug {cl : List Str} {i : Nat} {f c : Str} {n m : Int} {fn : List Str} {fv : List EV} {ds : List D} (h : e[i]? = some (.oi c fn fv)) (hp : plainL fv = some ds) (hc : c ∈ cl) (hl : lookF fn ds f = some (.int n)) (hn : fn.length < 1000)
    (q : P.nx (e.set i (.oi c (putK f fn) ((putN f (.int (n + m)) fn ds).map .v)))) : (fldAug cl i f (cst (.int m)) e).wp P := by
  have g : getI i e = some (c, fn, ds) := by
    unfold getI
    rw [h]
    simp only [hp, Option.map_some]
  unfold fldAug
  rw [g]
  simp only [if_pos hc, hl]
  rw [wp_bndS, wp_cst, g]
  simp only []
  rw [if_pos ⟨trivial, hn⟩]
  exact q
/-- x.pop(j) -/
@[simp] theorem wp_popS {i : Nat} : (popS i Fa e).wp P = wpO (getO i e) fun _ => (Fa e).wp (fun d e1 => wpO (getO i e1) fun ds => ∃ z, d = .int z ∧ (-9223372036854775808 ≤ z ∧ z < 9223372036854775808) ∧ wpO (seqIndex? z ds.length) fun j => j < ds.length ∧ P.nx (putO i (ds.eraseIdx j) e1)) P.ex := by
  unfold popS
  cases getO i e with
  | none => exact propext ⟨fun z => z.elim, fun ⟨_, z, _⟩ => by cases z⟩
  | some ds0 =>
    rw [wpO_some]
    show SO.wp (bndS _ _ e) P = _
    rw [wp_bndS]
    congr 1
    funext d e1
    cases getO i e1 with
    | none => cases d <;> exact propext ⟨fun z => z.elim, fun ⟨_, z, _⟩ => by cases z⟩
    | some ds =>
      rw [wpO_some]
      cases d with
      | int z =>
        show SO.wp (if -(2 ^ 63) ≤ z ∧ z < 2 ^ 63 then _ else _) P = _
        by_cases h : -(2 ^ 63) ≤ z ∧ z < 2 ^ 63
        · rw [if_pos h]
          cases hj : seqIndex? z ds.length with
          | none => exact propext ⟨fun w => w.elim, fun ⟨z2, z1, _, j, z3, _⟩ => by cases z1; rw [hj] at z3; cases z3⟩
          | some j =>
            show SO.wp (if j < ds.length then _ else _) P = _
            by_cases hl : j < ds.length
            · rw [if_pos hl]
              exact propext ⟨fun w => ⟨z, rfl, h, j, hj, hl, w⟩, fun ⟨z2, z1, _, j2, z3, _, w⟩ => by cases z1; rw [hj] at z3; cases z3; exact w⟩
            · rw [if_neg hl]
              exact propext ⟨fun w => w.elim, fun ⟨z2, z1, _, j2, z3, z4, w⟩ => by cases z1; rw [hj] at z3; cases z3; exact absurd z4 hl⟩
        · rw [if_neg h]
          exact propext ⟨fun w => w.elim, fun ⟨z2, z1, z3, _⟩ => by cases z1; exact absurd z3 h⟩
      | _ => exact propext ⟨fun w => w.elim, fun ⟨_, w, _⟩ => by cases w⟩
/-- an own dict in a slot -/
def wpG (o : Option EV) (Q : Bool → List D → List D → Prop) : Prop := match o with
  | some (.od t ks xs) => wpO (plainL xs) fun ds => Q t ks ds
  | _ => False
@[simp] theorem wpG_o {t : Bool} {ks : List D} {xs : List EV} {Q : Bool → List D → List D → Prop} : wpG (some (.od t ks xs)) Q = wpO (plainL xs) fun ds => Q t ks ds := rfl
theorem wp_getT {i : Nat} {Fs : M (List D)} {Fd : M D} {K0 : List D} {xs : List EV} {ds : List D} {ks : List D} {d : D} (h : e[i]? = some (.od true K0 xs)) (hp : plainL xs = some ds) (h1 : Fs e = .ok ks e) (h2 : Fd e = .ok d e) (hk : (keysK ks).isSome = true) (hl : ks.length ≤ 16777216)
    (q : Q ((getK K0 ds (.tup ks)).getD d) e) : (pkGetT i Fs Fd e).wp Q X := by
  have g : getE i e = some (true, K0, ds) := by
    unfold getE
    rw [h]
    simp only [hp, Option.map_some]
  unfold pkGetT
  rw [g]
  simp only []
  rw [wp_bnd, h1]
  show Out.wp (if (keysK ks).isSome = true ∧ ks.length ≤ 16777216 then _ else _) Q X
  rw [if_pos ⟨hk, hl⟩, wp_bnd, h2]
  show Out.wp (match getE i e with
    | some (true, K0, ds) => Out.ok ((getK K0 ds (.tup ks)).getD d) e
    | _ => .no) Q X
  rw [g]
  exact q
theorem wp_putT {i : Nat} {Fs : M (List D)} {Fd : M D} {K0 : List D} {xs : List EV} {ds : List D} {ks : List D} {d : D} (h : e[i]? = some (.od true K0 xs)) (hp : plainL xs = some ds) (h1 : Fs e = .ok ks e) (h2 : Fd e = .ok d e) (hk : (keysK ks).isSome = true) (hl : ks.length ≤ 16777216) (hz : K0.length < 16777216)
    (q : P.nx (e.set i (.od true (putKs K0 (.tup ks)) ((putDs K0 ds (.tup ks) d).map .v)))) : (dputT i Fd Fs e).wp P := by
  have g : getE i e = some (true, K0, ds) := by
    unfold getE
    rw [h]
    simp only [hp, Option.map_some]
  unfold dputT
  rw [wp_bndS, h2]
  show SO.wp (match getE i e with
    | none => SO.no
    | some _ => _) P
  rw [g]
  simp only []
  rw [wp_bndS, h1]
  show SO.wp (match getE i e with
    | some (true, K0, ds) => _
    | _ => SO.no) P
  rw [g]
  simp only []
  rw [if_pos ⟨hk, hz, hl⟩]
  exact q
@[simp] theorem lendE_nil : lendE [] = [] := rfl
@[simp] theorem lendE_cons {ev : EV} {r : List EV} : lendE (ev :: r) = (match toD ev with
  | some d => .v d
  | none => .un) :: lendE r := rfl
@[simp] theorem toD_un : toD .un = none := rfl
@[simp] theorem toD_od {t : Bool} {ks : List D} {xs : List EV} : toD (.od t ks xs) = none := rfl
@[simp] theorem toD_oi {c : Str} {fn : List Str} {xs : List EV} : toD (.oi c fn xs) = (toDs xs).map (.ins c fn) := rfl
@[simp] theorem toDs_nil : toDs [] = some [] := rfl
@[simp] theorem toDs_vc {d : D} {xs : List EV} : toDs (.v d :: xs) = (toDs xs).map (d :: ·) := by
  show (match some d, toDs xs with
    | some d, some ds => some (d :: ds)
    | _, _ => none) = _
  cases toDs xs <;> rfl
@[simp] theorem scal_i {i : Int} : scal (.int i) = true := rfl
@[simp] theorem scal_b {b : Bool} : scal (.bl b) = true := rfl
end
end DL

/-! ### the rows of a note -/
namespace K32
theorem nd_le : ∀ {l s : List Nat}, l.Nodup → (∀ x ∈ l, x ∈ s) → l.length ≤ s.length
  | [], s, _, _ => Nat.zero_le _
  | x :: l, s, h, k => by
    obtain ⟨h1, h2⟩ := List.nodup_cons.mp h
    have hx := k x (List.mem_cons_self ..)
    have := nd_le (s := s.erase x) h2 fun y hy => (List.mem_erase_of_ne (fun z => h1 (by rw [← z]; exact hy))).mpr (k y (List.mem_cons_of_mem _ hy))
    rw [List.length_erase_of_mem hx] at this
    have := List.length_pos_of_mem hx
    rw [List.length_cons]
    omega
theorem led_app (ts : List (List Nat)) (s : Nat) (a b : List Nat) : led ts s (a ++ b) = led ts (led ts s a) b := List.foldl_append
/-- a row: each path has a mark and a start of its own -/
structure Good (ts : List (List Nat)) (st log : List Nat) (row : List (Nat × Nat)) : Prop where
  ex : ∃ l : List (Nat × Nat), row = l.map (fun q => (q.1, led ts q.2 log)) ∧ (l.map (·.2)).Nodup ∧ (∀ q ∈ l, q.2 ∈ st) ∧ (l.map (·.1)).Nodup ∧ ∀ q ∈ l, q.1 < l.length
theorem Good.perm {ts : List (List Nat)} {st log : List Nat} {l l' : List (Nat × Nat)} (p : l'.Perm l) (h2 : (l.map (·.2)).Nodup) (h3 : ∀ q ∈ l, q.2 ∈ st) (h4 : (l.map (·.1)).Nodup) (h5 : ∀ q ∈ l, q.1 < l.length) : Good ts st log (l'.map fun q => (q.1, led ts q.2 log)) :=
  ⟨l', rfl, (p.map _).nodup_iff.mpr h2, fun q hq => h3 q (p.mem_iff.mp hq), (p.map _).nodup_iff.mpr h4, fun q hq => by rw [p.length_eq]; exact h5 q (p.mem_iff.mp hq)⟩
theorem Good.nil {ts : List (List Nat)} {st log : List Nat} : Good ts st log [] := ⟨[], rfl, List.nodup_nil, (fun _ h => by cases h), List.nodup_nil, fun _ h => by cases h⟩
theorem Good.one {ts : List (List Nat)} {st : List Nat} {s : Nat} (h : s ∈ st) : Good ts st [] [(0, s)] := ⟨[(0, s)], rfl, by simp, (fun q hq => by rw [List.mem_singleton.mp hq]; exact h), by simp, fun q hq => by rw [List.mem_singleton.mp hq]; exact Nat.zero_lt_one⟩
theorem Good.len {ts : List (List Nat)} {st log : List Nat} {row : List (Nat × Nat)} (h : Good ts st log row) : row.length ≤ st.length := by
  obtain ⟨l, rfl, h2, h3, h4, h5⟩ := h.ex
  have := nd_le h2 fun x hx => by
    obtain ⟨q, hq, rfl⟩ := List.mem_map.mp hx
    exact h3 q hq
  simpa using this
theorem Good.marks {ts : List (List Nat)} {st log : List Nat} {row : List (Nat × Nat)} (h : Good ts st log row) : (row.map (·.1)).Nodup := by
  obtain ⟨l, rfl, h2, h3, h4, h5⟩ := h.ex
  rw [List.map_map]
  exact h4
/-- the mark tells the path -/
theorem Good.one_path {ts : List (List Nat)} {st log : List Nat} {row : List (Nat × Nat)} (h : Good ts st log row) {k a b : Nat} (ha : (k, a) ∈ row) (hb : (k, b) ∈ row) : a = b := by
  have nd := h.marks
  clear h
  induction row with
  | nil => cases ha
  | cons p row ih =>
    rw [List.map_cons, List.nodup_cons] at nd
    rcases List.mem_cons.mp ha with h1 | h1
    · rcases List.mem_cons.mp hb with h2 | h2
      · rw [← h1] at h2; cases h2; rfl
      · exact absurd (List.mem_map.mpr ⟨(k, b), h2, by rw [← h1]⟩) nd.1
    · rcases List.mem_cons.mp hb with h2 | h2
      · exact absurd (List.mem_map.mpr ⟨(k, a), h1, by rw [← h2]⟩) nd.1
      · exact ih h1 h2 nd.2
def mov (ts : List (List Nat)) (d : Nat) (row : List (Nat × Nat)) : List (Nat × Nat) := row.map fun p => (p.1, cel ts d p.2)
theorem Good.mov {ts : List (List Nat)} {st log : List Nat} {row : List (Nat × Nat)} (d : Nat) (h : Good ts st log row) : Good ts st (log ++ [d]) (mov ts d row) := by
  obtain ⟨l, rfl, h2, h3, h4, h5⟩ := h.ex
  refine ⟨l, ?_, h2, h3, h4, h5⟩
  unfold K32.mov
  rw [List.map_map]
  apply List.map_congr_left
  intro q _
  show (q.1, cel ts d (led ts q.2 log)) = (q.1, led ts q.2 (log ++ [d]))
  rw [led_app]
  rfl
/-- what with_return gives: the path at s ahead, else a new one -/
inductive Wret (s : Nat) (row : List (Nat × Nat)) : List (Nat × Nat) → Prop
  | old (a b : List (Nat × Nat)) (k : Nat) (h : row = a ++ (k, s) :: b) : Wret s row ((k, s) :: (a ++ b))
  | new (h : ∀ p ∈ row, p.2 ≠ s) : Wret s row ((row.length, s) :: row)
theorem Wret.front {s : Nat} {row r : List (Nat × Nat)} (h : Wret s row r) : ∃ k t, r = (k, s) :: t := by cases h <;> exact ⟨_, _, rfl⟩
theorem Wret.keep {s : Nat} {row r : List (Nat × Nat)} (h : Wret s row r) : ∀ p ∈ row, p ∈ r := by
  intro p hp
  cases h with
  | old a b k e =>
    rw [e] at hp
    simp only [List.mem_append, List.mem_cons] at hp ⊢
    rcases hp with z | z | z
    · exact .inr (.inl z)
    · exact .inl z
    · exact .inr (.inr z)
  | new _ => exact List.mem_cons_of_mem _ hp
theorem Wret.good {ts : List (List Nat)} {st log : List Nat} {s : Nat} {row r : List (Nat × Nat)} (w : Wret s row r) (g : Good ts st log row) (hs : ∃ a ∈ st, led ts a log = s) : Good ts st log r := by
  obtain ⟨l, e, h2, h3, h4, h5⟩ := g.ex
  cases w with
  | old a b k hr =>
    rw [hr] at e
    obtain ⟨l1, l2, e1, e2, e3⟩ := List.map_eq_append_iff.mp e.symm
    obtain ⟨q, l3, e4, e5, e6⟩ := List.map_eq_cons_iff.mp e3
    subst e1 e4
    have p : (q :: (l1 ++ l3)).Perm (l1 ++ q :: l3) := (List.perm_middle).symm
    have := Good.perm (ts := ts) (st := st) (log := log) p h2 h3 h4 h5
    rw [List.map_cons, List.map_append, e2, e6] at this
    rw [← e5]
    exact this
  | new hn =>
    obtain ⟨a, ha, hl⟩ := hs
    have len : row.length = l.length := by rw [e, List.length_map]
    refine ⟨(l.length, a) :: l, ?_, ?_, fun q hq => ?_, ?_, fun q hq => ?_⟩
    · rw [List.map_cons, ← e, len, hl]
    · rw [List.map_cons, List.nodup_cons]
      refine ⟨fun z => ?_, h2⟩
      obtain ⟨q, hq, e7⟩ := List.mem_map.mp z
      have e7 : q.2 = a := e7
      exact hn (q.1, led ts q.2 log) (by rw [e]; exact List.mem_map.mpr ⟨q, hq, rfl⟩) (by rw [e7]; exact hl)
    · rcases List.mem_cons.mp hq with z | z
      · rw [z]; exact ha
      · exact h3 q z
    · rw [List.map_cons, List.nodup_cons]
      refine ⟨fun z => ?_, h4⟩
      obtain ⟨q, hq, e7⟩ := List.mem_map.mp z
      have e7 : q.1 = l.length := e7
      have := h5 q hq
      omega
    · rw [List.length_cons]
      rcases List.mem_cons.mp hq with z | z
      · rw [z]; exact Nat.lt_succ_self _
      · exact Nat.lt_succ_of_lt (h5 q z)
/-- a note behind the log -/
structure NI (m : Nat) (ts : List (List Nat)) (st log poss : List Nat) (rows : List (List (Nat × Nat))) : Prop where
  len : rows.length = m
  good : ∀ s < m, Good ts st log (rows.getD s [])
  mem : ∀ x, x ∈ poss ↔ ∃ a ∈ st, led ts a log = x
  front : ∀ s ∈ poss, ∃ k t, rows.getD s [] = (k, s) :: t
  few : poss.length ≤ m
/-- a copy that is out -/
structure CI (m : Nat) (ts : List (List Nat)) (log : List Nat) (rows : List (List (Nat × Nat))) (c : Nat × Nat × Nat) : Prop where
  lt : c.1 < m
  age : c.2.2 ≤ log.length
  here : (c.2.1, led ts c.1 (log.drop c.2.2)) ∈ rows.getD c.1 []
/-- rows amid the returns -/
structure Mid (m : Nat) (ts : List (List Nat)) (st log : List Nat) (rows0 : List (List (Nat × Nat))) (poss rest : List Nat) (found : List (List (Nat × Nat))) : Prop where
  len : found.length = m
  good : ∀ s < m, Good ts st log (found.getD s [])
  keep : ∀ s < m, ∀ p ∈ rows0.getD s [], p ∈ found.getD s []
  front : ∀ s ∈ poss, s ∈ rest ∨ ∃ k t, found.getD s [] = (k, s) :: t
theorem getD_set {α : Type} {l : List α} {i j : Nat} {a d : α} (h : i < l.length) : (l.set i a).getD j d = if i = j then a else l.getD j d := by
  rw [List.getD_eq_getElem?_getD, List.getElem?_set, List.getD_eq_getElem?_getD]
  by_cases hj : i = j
  · rw [if_pos hj, if_pos hj, if_pos h]; rfl
  · rw [if_neg hj, if_neg hj]
theorem Mid.step {m : Nat} {ts : List (List Nat)} {st log : List Nat} {rows0 : List (List (Nat × Nat))} {poss rest : List Nat} {found : List (List (Nat × Nat))} {s : Nat} {r : List (Nat × Nat)} (h : Mid m ts st log rows0 poss (s :: rest) found) (hs : s < m) (hp : ∃ a ∈ st, led ts a log = s) (w : Wret s (found.getD s []) r) :
    Mid m ts st log rows0 poss rest (found.set s r) := by
  have hl : s < found.length := by rw [h.len]; exact hs
  refine ⟨by rw [List.length_set]; exact h.len, fun j hj => ?_, fun j hj p hp2 => ?_, fun j hj => ?_⟩
  · rw [getD_set hl]
    by_cases e : s = j
    · rw [if_pos e]; exact w.good (h.good s hs) hp
    · rw [if_neg e]; exact h.good j hj
  · rw [getD_set hl]
    have k := h.keep j hj p hp2
    by_cases e : s = j
    · rw [if_pos e]
      subst e
      exact w.keep p k
    · rw [if_neg e]; exact k
  · rw [getD_set hl]
    by_cases e : s = j
    · rw [if_pos e, ← e]
      exact .inr w.front
    · rw [if_neg e]
      rcases h.front j hj with z | z
      · rcases List.mem_cons.mp z with z | z
        · exact absurd z.symm e
        · exact .inl z
      · exact .inr z
theorem NI.mid {m : Nat} {ts : List (List Nat)} {st log poss : List Nat} {rows : List (List (Nat × Nat))} (h : NI m ts st log poss rows) (d : Nat) (poss' : List Nat) : Mid m ts st (log ++ [d]) (rows.map (mov ts d)) poss' poss' (rows.map (mov ts d)) := by
  refine ⟨by rw [List.length_map]; exact h.len, fun s hs => ?_, fun s hs p hp => hp, fun s hs => .inl hs⟩
  have e : (rows.map (mov ts d)).getD s [] = mov ts d (rows.getD s []) := by
    rw [List.getD_eq_getElem?_getD, List.getD_eq_getElem?_getD, List.getElem?_map]
    cases rows[s]? <;> rfl
  rw [e]
  exact (h.good s hs).mov d
theorem getD_mov {ts : List (List Nat)} {rows : List (List (Nat × Nat))} {d s : Nat} : (rows.map (mov ts d)).getD s [] = mov ts d (rows.getD s []) := by
  rw [List.getD_eq_getElem?_getD, List.getD_eq_getElem?_getD, List.getElem?_map]
  cases rows[s]? <;> rfl
theorem Mid.ni {m : Nat} {ts : List (List Nat)} {st log poss poss' : List Nat} {rows found : List (List (Nat × Nat))} {d : Nat} (h0 : NI m ts st log poss rows) (h : Mid m ts st (log ++ [d]) (rows.map (mov ts d)) poss' [] found) (hp : ∀ x, x ∈ poss' ↔ ∃ s ∈ poss, cel ts d s = x) (hf : poss'.length ≤ poss.length) :
    NI m ts st (log ++ [d]) poss' found := by
  refine ⟨h.len, h.good, fun x => ?_, fun s hs => ?_, Nat.le_trans hf h0.few⟩
  · rw [hp]
    constructor
    · rintro ⟨s, hs, rfl⟩
      obtain ⟨a, ha, e⟩ := (h0.mem s).mp hs
      exact ⟨a, ha, by rw [led_app, e]; rfl⟩
    · rintro ⟨a, ha, rfl⟩
      exact ⟨_, (h0.mem _).mpr ⟨a, ha, rfl⟩, by rw [led_app]; rfl⟩
  · rcases h.front s hs with z | z
    · cases z
    · exact z
theorem CI.put {m : Nat} {ts : List (List Nat)} {st log poss' : List Nat} {rows found : List (List (Nat × Nat))} {d : Nat} {c : Nat × Nat × Nat} (h : Mid m ts st (log ++ [d]) (rows.map (mov ts d)) poss' [] found) (k : CI m ts log rows c) : CI m ts (log ++ [d]) found c := by
  refine ⟨k.lt, by rw [List.length_append]; exact Nat.le_trans k.age (Nat.le_add_right _ _), ?_⟩
  refine h.keep _ k.lt _ ?_
  rw [getD_mov, List.drop_append_of_le_length k.age, led_app]
  exact List.mem_map.mpr ⟨_, k.here, rfl⟩
theorem CI.kept {m : Nat} {ts : List (List Nat)} {st log poss : List Nat} {rows : List (List (Nat × Nat))} (h : NI m ts st log poss rows) {s k : Nat} {t : List (Nat × Nat)} (hm : s < m) (e : rows.getD s [] = (k, s) :: t) : CI m ts log rows (s, k, log.length) := by
  refine ⟨hm, Nat.le_refl _, ?_⟩
  show (k, led ts s (log.drop log.length)) ∈ rows.getD s []
  rw [List.drop_length, e]
  exact List.mem_cons_self ..
/-- what a start comes to that showed the copy -/
theorem led_cut (ts : List (List Nat)) (a g : Nat) (log : List Nat) : led ts (led ts a (log.take g)) (log.drop g) = led ts a log := by rw [← led_app, List.take_append_drop]
end K32

namespace K32
open PySem PyProof.Rows L2 DL
abbrev pD (p : Nat × Nat) : D := .tup [nD p.1, nD p.2]
abbrev prow (r : List (Nat × Nat)) : D := .tup (r.map pD)
abbrev NF : List Str := ["machine", "age", "possible", "rows"]
abbrev nV (m : Nat) (ts : List (List Nat)) (age : Int) (poss : List Nat) (rows : List (List (Nat × Nat))) : List D := [macD m ts, .int age, .tup (poss.map nD), .tup (rows.map prow)]
abbrev noteD (m : Nat) (ts : List (List Nat)) (age : Int) (poss : List Nat) (rows : List (List (Nat × Nat))) : D := .ins "LogNote" NF (nV m ts age poss rows)
theorem f_deeds {m : Nat} {ts : List (List Nat)} : gFld ocl "deeds" (macD m ts) = some (nD ts.length) := by
  have n1 : ¬ ("tables" : Str) = "deeds" := by decide
  simp [gFld, ocl, lookF, n1]
theorem f_tables {m : Nat} {ts : List (List Nat)} : gFld ocl "tables" (macD m ts) = some (.tup (ts.map rowD)) := by
  simp [gFld, ocl, lookF]
theorem f_states {m : Nat} {ts : List (List Nat)} : gFld ocl "states" (macD m ts) = some (nD m) := by
  have n1 : ¬ ("tables" : Str) = "states" := by decide
  have n2 : ¬ ("deeds" : Str) = "states" := by decide
  simp [gFld, ocl, lookF, n1, n2]
theorem l_machine {m : Nat} {ts : List (List Nat)} {age : Int} {poss : List Nat} {rows : List (List (Nat × Nat))} : lookF NF (nV m ts age poss rows) "machine" = some (macD m ts) := by
  simp [lookF]
theorem l_age {m : Nat} {ts : List (List Nat)} {age : Int} {poss : List Nat} {rows : List (List (Nat × Nat))} : lookF NF (nV m ts age poss rows) "age" = some (.int age) := by
  have n1 : ¬ ("machine" : Str) = "age" := by decide
  simp [lookF, n1]
theorem l_possible {m : Nat} {ts : List (List Nat)} {age : Int} {poss : List Nat} {rows : List (List (Nat × Nat))} : lookF NF (nV m ts age poss rows) "possible" = some (.tup (poss.map nD)) := by
  have n1 : ¬ ("machine" : Str) = "possible" := by decide
  have n2 : ¬ ("age" : Str) = "possible" := by decide
  simp [lookF, n1, n2]
theorem l_rows {m : Nat} {ts : List (List Nat)} {age : Int} {poss : List Nat} {rows : List (List (Nat × Nat))} : lookF NF (nV m ts age poss rows) "rows" = some (.tup (rows.map prow)) := by
  have n1 : ¬ ("machine" : Str) = "rows" := by decide
  have n2 : ¬ ("age" : Str) = "rows" := by decide
  have n3 : ¬ ("possible" : Str) = "rows" := by decide
  simp [lookF, n1, n2, n3]
theorem ocl_note : ("LogNote" : Str) ∈ ocl := by simp [ocl]
theorem ocl_c : ocl.contains ("LogNote" : Str) = true := by simp [ocl]
theorem g_note {c : Str} {fn : List Str} {fv : List D} {f : Str} (h : ocl.contains c = true) : gFld ocl f (.ins c fn fv) = lookF fn fv f := by
  show (if ocl.contains c then _ else _) = _
  rw [if_pos h]
theorem need_st {m : Nat} {ts : List (List Nat)} {s : Nat} (hs : s < m) {Q : EV → List EV → Prop} {X : XV → List EV → Prop} (hq : Q (.v (nD s)) [.un, .un]) : (S_need_state [.v (macD m ts), .v (nD s)]).wp Q X := by
  unfold S_need_state F_need_state
  simp [f_states, takeA, putA, is_blw _ _ (tyN_n s), blwD, hs, outs]
  exact hq
theorem need_dd {m : Nat} {ts : List (List Nat)} {d : Nat} (hd : d < ts.length) {Q : EV → List EV → Prop} {X : XV → List EV → Prop} (hq : Q (.v (nD d)) [.un, .un]) : (S_need_deed [.v (macD m ts), .v (nD d)]).wp Q X := by
  unfold S_need_deed F_need_deed
  simp [f_deeds, takeA, putA, is_blw _ _ (tyN_n d), blwD, hd, outs]
  exact hq
theorem log_nil {m : Nat} {ts : List (List Nat)} {Q : EV → List EV → Prop} {X : XV → List EV → Prop} (hq : Q (.v (.tup [])) [.un, .un]) : (S_check_log [.v (macD m ts), .v (.tup [])]).wp Q X := by
  unfold S_check_log F_check_log
  simp [takeA, putA, is_seq (.tup []) (fun z => by cases z), seqD, enD, DL.forM, outs]
  exact hq
theorem moved_sp {m : Nat} {r : List Nat} {ps : List (Nat × Nat)} (hr : r.length = m) (hp : ∀ p ∈ ps, p.2 < m) (hl : ps.length ≤ 16777216) {Q : EV → List EV → Prop} {X : XV → List EV → Prop} (hq : Q (.v (prow (ps.map fun p => (p.1, r.getD p.2 0)))) [.un, .un]) : (S_moved_paths [.v (rowD r), .v (prow ps)]).wp Q X := by
  unfold S_moved_paths F_moved_paths
  simp [-List.map_map]
  refine lc_map (fun _ => true) (fun d => match d with
    | .tup [a, .int i] => .tup [a, nD (r.getD i.toNat 0)]
    | _ => .non) (fun d hd => ?_) (by simp; omega) ?_
  · obtain ⟨p, hx, rfl⟩ := List.mem_map.mp hd
    refine ⟨_, rfl, ?_⟩
    have h2 := hp p hx
    have e := atI_n (in_row (r := r) (s := p.2) (by omega)).1
    simp [wipeE, e]
  · have e : (ps.map pD).filter (fun _ => true) = ps.map pD := List.filter_eq_self.mpr fun _ _ => rfl
    rw [e, List.map_map]
    have e2 : (ps.map ((fun d => match d with
    | D.tup [a, .int i] => .tup [a, nD (r.getD i.toNat 0)]
    | _ => .non) ∘ pD)) = (ps.map fun p => (p.1, r.getD p.2 0)).map pD := by
      rw [List.map_map]
      apply List.map_congr_left
      intro p _
      rfl
    rw [e2]
    simp [-List.map_map, wipeE, backE, outs]
    exact hq
/-- enumerate's rest, from place k on -/
def enP (k : Nat) : List (Nat × Nat) → List D
  | [] => []
  | x :: l => .pr (nD k) (pD x) :: enP (k + 1) l
theorem enD_enP (l : List (Nat × Nat)) : enD (l.map pD) = enP 0 l := by
  have key : ∀ (l : List (Nat × Nat)) (k : Nat), (List.range' k l.length).zipWith (fun i d => D.pr (.int (i : Nat)) d) (l.map pD) = enP k l := by
    intro l
    induction l with
    | nil => intro k; rfl
    | cons x l ih =>
      intro k
      rw [List.length_cons, List.range'_succ, List.map_cons, List.zipWith_cons_cons, ih]
      rfl
  unfold enD
  rw [List.length_map, List.range_eq_range']
  exact key l 0
theorem cut_to {α : Type} (xs : List α) (k : Nat) : DL.cutD xs none (some (k : Int)) = xs.take k := by
  unfold DL.cutD
  rw [HT.sIx_none, HT.sIx_nat]
  show (xs.drop 0).take (min k xs.length - 0) = _
  rw [List.drop_zero, Nat.sub_zero]
  by_cases h : k ≤ xs.length
  · rw [Nat.min_eq_left h]
  · rw [Nat.min_eq_right (by omega), List.take_of_length_le (Nat.le_refl _), List.take_of_length_le (by omega)]
theorem cut_from {α : Type} (xs : List α) (k : Nat) : DL.cutD xs (some (k : Int)) none = xs.drop k := by
  unfold DL.cutD
  rw [HT.sIx_none, HT.sIx_nat]
  by_cases h : k ≤ xs.length
  · rw [Nat.min_eq_left h, List.take_of_length_le (by simp)]
  · rw [Nat.min_eq_right (by omega), Nat.sub_self, List.take_zero, List.drop_of_length_le (by omega)]
end K32

namespace K32
open PySem PyProof.Rows L2 DL
def WI (s : Nat) (row : List (Nat × Nat)) (rest : List D) (e : List EV) : Prop := ∃ (a b : List (Nat × Nat)) (s2 s3 s4 : EV), rest = enP a.length b ∧ row = a ++ b ∧ (∀ p ∈ a, p.2 ≠ s) ∧ e = [.v (nD s), .v (prow row), s2, s3, s4]
theorem ret_sp {s : Nat} {row : List (Nat × Nat)} (hl : row.length ≤ 1000) {Q : EV → List EV → Prop} {X : XV → List EV → Prop} (hq : ∀ r, Wret s row r → Q (.v (prow r)) [.un, .un]) : (S_with_return [.v (nD s), .v (prow row)]).wp Q X := by
  unfold S_with_return F_with_return
  simp [-List.map_map, enD_enP]
  refine forM_wp (WI s row) (fun d rest e h => ?_) (fun e h => ?_) ⟨[], row, _, _, _, rfl, rfl, (fun _ h => by cases h), rfl⟩
  · obtain ⟨a, b, s2, s3, s4, h1, h2, h3, rfl⟩ := h
    cases b with
    | nil => cases h1
    | cons p b =>
      cases h1
      refine ⟨_, rfl, ?_⟩
      by_cases hp : p.2 = s
      · have c1 : DL.cutD (row.map pD) none (some (a.length : Int)) = a.map pD := by rw [cut_to, h2, ← List.map_take, List.take_left']; rfl
        have c2 : DL.cutD (row.map pD) (some ((a.length : Int) + 1)) none = b.map pD := by
          rw [show ((a.length : Int) + 1) = ((a.length + 1 : Nat) : Int) by omega, cut_from, h2, ← List.map_drop, ← List.drop_drop, List.drop_left' rfl]
          rfl
        have l1 : a.length + b.length ≤ 1000 := by
          rw [h2] at hl
          simp at hl
          omega
        simp [-List.map_map, hp, c1, c2, outs]
        refine ⟨by omega, by omega, ?_⟩
        have w : Wret s row ((p.1, s) :: (a ++ b)) := .old a b p.1 (by rw [h2, ← hp])
        have := hq _ w
        rw [show prow ((p.1, s) :: (a ++ b)) = D.tup (D.tup [nD p.1, nD s] :: (a.map pD ++ b.map pD)) by simp [prow]] at this
        exact this
      · have hp2 : ¬ ((p.2 : Int) = s) := by omega
        simp [-List.map_map, hp2]
        exact ⟨a ++ [p], b, _, _, _, by simp, by simp [h2], fun q hq => by
          rcases List.mem_append.mp hq with z | z
          · exact h3 q z
          · rw [List.mem_singleton.mp z]; exact hp, rfl⟩
  · obtain ⟨a, b, s2, s3, s4, h1, h2, h3, rfl⟩ := h
    cases b with
    | cons p b => cases h1
    | nil =>
      simp [-List.map_map, outs]
      refine ⟨by omega, ?_⟩
      have w : Wret s row ((row.length, s) :: row) := .new (by rw [h2, List.append_nil]; exact h3)
      exact hq _ w
/-- the comprehension of a dict -/
theorem dcM_wp {vs : List Nat} {t : TgF} {T : M Bool} {Fk Fv : M D} {Q : List D × List D → List EV → Prop} (I : List D → List D × List D → List EV → Prop)
    (hs : ∀ d r acc e, I (d :: r) acc e → ∃ e1, t d e = some e1 ∧ ∃ e2, T e1 = .ok true e2 ∧ (Fk e2).wp (fun k e3 => (Fv e3).wp (fun v e4 => ((keyK k).isSome = true ∧ acc.1.length < 16777216) ∧ I r (putKs acc.1 k, putDs acc.1 acc.2 k v) (wipeE e4 vs)) fun _ _ => False) fun _ _ => False)
    (he : ∀ acc e, I [] acc e → Q acc e) : ∀ {ds : List D} {acc : List D × List D} {e : List EV}, I ds acc e → (dcM vs t T Fk Fv ds acc e).wp Q fun _ _ => False
  | [], acc, e, h => he acc e h
  | d :: r, acc, e, h => by
    obtain ⟨e1, h1, e2, h2, h3⟩ := hs d r acc e h
    unfold dcM
    rw [h1]
    dsimp only
    rw [h2]
    dsimp only
    cases q2 : Fk e2 with
    | no => rw [q2] at h3; exact h3
    | ex x e => rw [q2] at h3; exact h3
    | ok k e3 =>
      rw [q2] at h3
      dsimp only
      have h3 : (Fv e3).wp (fun v e4 => ((keyK k).isSome = true ∧ acc.1.length < 16777216) ∧ I r (putKs acc.1 k, putDs acc.1 acc.2 k v) (wipeE e4 vs)) (fun _ _ => False) := h3
      cases q3 : Fv e3 with
      | no => rw [q3] at h3; exact h3
      | ex x e => rw [q3] at h3; exact h3
      | ok v e4 =>
        rw [q3] at h3
        dsimp only
        obtain ⟨h4, h5⟩ := (show ((keyK k).isSome = true ∧ acc.1.length < 16777216) ∧ I r (putKs acc.1 k, putDs acc.1 acc.2 k v) (wipeE e4 vs) from h3)
        rw [if_pos h4]
        exact dcM_wp I hs he h5
theorem dcB_wp {vs : List Nat} {t : TgF} {T : M Bool} {Fk Fv : M D} {Q : List D × List D → List EV → Prop} {X : XV → List EV → Prop} {ds : List D} {e : List EV} (I : List D → List D × List D → List EV → Prop)
    (hs : ∀ d r acc e, I (d :: r) acc e → ∃ e1, t d e = some e1 ∧ ∃ e2, T e1 = .ok true e2 ∧ (Fk e2).wp (fun k e3 => (Fv e3).wp (fun v e4 => ((keyK k).isSome = true ∧ acc.1.length < 16777216) ∧ I r (putKs acc.1 k, putDs acc.1 acc.2 k v) (wipeE e4 vs)) fun _ _ => False) fun _ _ => False)
    (he : ∀ acc e1, I [] acc e1 → wpO (backE e e1 vs) fun e2 => Q acc e2) (h0 : I ds ([], []) (wipeE e vs)) : (dcB vs t T Fk Fv ds e).wp Q X := by
  have h := dcM_wp (Q := fun acc e1 => wpO (backE e e1 vs) fun e2 => Q acc e2) I hs he h0
  unfold dcB
  cases q : dcM vs t T Fk Fv ds ([], []) (wipeE e vs) with
  | no => rw [q] at h; exact h
  | ex x e1 => rw [q] at h; exact h.elim
  | ok acc e1 =>
    rw [q] at h
    obtain ⟨e2, h1, h2⟩ := h
    dsimp only
    rw [h1]
    exact h2
theorem hasK_n (l : List Nat) (x : Nat) : hasK (l.map nD) (nD x) = decide (x ∈ l) := by
  induction l with
  | nil => simp [hasK]
  | cons y l ih =>
    have e : hasK ((y :: l).map nD) (nD x) = (eqB (nD y) (nD x) || hasK (l.map nD) (nD x)) := rfl
    rw [e, ih]
    have e2 : eqB (nD y) (nD x) = decide (y = x) := by
      have h : ((y : Int) = (x : Int)) = (y = x) := propext ⟨fun h => by omega, fun h => by rw [h]⟩
      simp [eqB, keyA, keyK, h]
    rw [e2]
    by_cases h : y = x
    · simp [h]
    · by_cases h2 : x ∈ l
      · simp [h2]
      · have h3 : ¬ x = y := fun z => h z.symm
        simp [h, h2, h3]
theorem putKs_n (l : List Nat) (x : Nat) : ∃ l' : List Nat, putKs (l.map nD) (nD x) = l'.map nD ∧ (∀ y, y ∈ l' ↔ y ∈ l ∨ y = x) ∧ l'.length ≤ l.length + 1 := by
  unfold putKs
  rw [hasK_n]
  by_cases h : x ∈ l
  · rw [if_pos (by simpa using h)]
    exact ⟨l, rfl, fun y => ⟨.inl, fun z => z.elim id fun z => by rw [z]; exact h⟩, Nat.le_succ _⟩
  · rw [if_neg (by simpa using h)]
    exact ⟨l ++ [x], by simp, fun y => by simp, by simp⟩
theorem gSrt_n (l : List Nat) : ∃ l' : List Nat, gSrt [.lst (l.map nD)] = some (.lst (l'.map nD)) ∧ l'.Perm l := by
  have p : (srtI (l.map fun n : Nat => (n : Int))).Perm (l.map fun n : Nat => (n : Int)) := List.mergeSort_perm _ _
  refine ⟨(srtI (l.map fun n : Nat => (n : Int))).map Int.toNat, ?_, ?_⟩
  · unfold gSrt
    show Option.map (fun ns => D.lst (List.map D.int (srtI ns))) (toInts (l.map fun n : Nat => DL.D.int n)) = _
    rw [toInts_n]
    simp only [Option.map_some, List.map_map]
    congr 2
    apply List.map_congr_left
    intro x hx
    obtain ⟨n, _, rfl⟩ := List.mem_map.mp (p.mem_iff.mp hx)
    rfl
  · have := p.map Int.toNat
    rw [List.map_map] at this
    have e : l.map (Int.toNat ∘ fun n : Nat => (n : Int)) = l := by
      have e1 : (Int.toNat ∘ fun n : Nat => (n : Int)) = id := by funext n; rfl
      rw [e1, List.map_id]
    rw [e] at this
    exact this
end K32

namespace K32
open PySem PyProof.Rows L2 DL
theorem eqv_n (a b : Nat) : PyData.eqv (.int (a : Int)) (.int (b : Int)) = decide (a = b) := by
  by_cases h : a = b
  · subst h; simp [PyData.eqv]
  · have h2 : ¬ (a : Int) = (b : Int) := by omega
    simp [PyData.eqv, h, h2]
theorem toPs_n : ∀ l : List Nat, toPs (l.map nD) = some (l.map fun n : Nat => PyData.int n)
  | [] => rfl
  | x :: l => by simp [toPs, toP, toPs_n l]
theorem lay_n : ∀ l : List Nat, PyData.canLayAll0 (l.map fun n : Nat => PyData.int n) = true
  | [] => rfl
  | x :: l => by simp [PyData.canLayAll0, PyData.canLay0, lay_n l]
theorem inD_n (s : Nat) (l : List Nat) : inD (nD s) (.tup (l.map nD)) = some (decide (s ∈ l)) := by
  unfold inD
  have e : toP (nD s) = some (.int s) := rfl
  rw [e]
  simp only [toPs_n, lay_n]
  have sh : SeqAt.shaped (.int (s : Int)) = true := by simp [SeqAt.shaped, PyData.depth, PyData.canLay0]
  rw [sh]
  simp only [Bool.and_self, if_true]
  congr 1
  induction l with
  | nil => rfl
  | cons y l ih =>
    rw [List.map_cons, List.any_cons, eqv_n, ih]
    by_cases h : y = s
    · simp [h]
    · have h3 : ¬ s = y := fun z => h z.symm
      simp [h, h3]
theorem gIn_n (s : Nat) (l : List Nat) : gIn (nD s) (.tup (l.map nD)) = some (.bl (decide (s ∈ l))) := by unfold gIn; rw [inD_n]; rfl
theorem gNotIn_n (s : Nat) (l : List Nat) : gNotIn (nD s) (.tup (l.map nD)) = some (.bl (!decide (s ∈ l))) := by unfold gNotIn; rw [inD_n]; rfl
theorem row_get {rows : List (List (Nat × Nat))} {s : Nat} (h : s < rows.length) : atI (rows.map prow) (s : Int) = some (prow (rows.getD s [])) := by
  refine atI_n ?_
  rw [List.getElem?_map, List.getD_eq_getElem?_getD, List.getElem?_eq_getElem h]
  rfl
theorem mark_sp {m : Nat} {ts : List (List Nat)} {age : Int} {poss : List Nat} {rows : List (List (Nat × Nat))} {s k : Nat} {r : List (Nat × Nat)} (hs : s < m) (hp : s ∈ poss) (hl : rows.length = m) (hr : rows.getD s [] = (k, s) :: r) {Q : EV → List EV → Prop} {X : XV → List EV → Prop} (hq : Q (.v (nD k)) [.un, .un]) :
    (S_LogNote_mark [.v (noteD m ts age poss rows), .v (nD s)]).wp Q X := by
  unfold S_LogNote_mark F_LogNote_mark
  have e := row_get (rows := rows) (s := s) (by omega)
  rw [hr] at e
  simp [-List.map_map, g_note ocl_c, l_machine, takeA, putA]
  refine need_st hs ?_
  simp [-List.map_map, g_note ocl_c, l_possible, l_rows, gNotIn_n, hp, putA, outs]
  rw [e, wpO_some]
  simp [atI, ixN]
  exact hq
theorem mrg_n : ∀ (row a : List (Nat × Nat)), ((a ++ row).map (·.1)).Nodup → mrg (a.map fun p => nD p.1) (a.map fun p => nD p.2) (row.map pD) = some ((a ++ row).map (fun p => nD p.1), (a ++ row).map (fun p => nD p.2))
  | [], a, _ => by simp [mrg]
  | p :: row, a, nd => by
    have nk : p.1 ∉ a.map (·.1) := fun z => by
      rw [List.map_append, List.map_cons, List.nodup_append] at nd
      exact nd.2.2 _ z _ (List.mem_cons_self ..) rfl
    have hk : hasK (a.map fun p => nD p.1) (nD p.1) = false := by
      have e : (a.map fun p => nD p.1) = (a.map (·.1)).map nD := by rw [List.map_map]; rfl
      rw [e, hasK_n]
      simpa using nk
    have e1 : putKs (a.map fun p => nD p.1) (nD p.1) = (a ++ [p]).map fun p => nD p.1 := by
      unfold putKs
      rw [hk]
      simp
    have e2 : putDs (a.map fun p => nD p.1) (a.map fun p => nD p.2) (nD p.1) (nD p.2) = (a ++ [p]).map fun p => nD p.2 := by
      unfold putDs
      rw [hk]
      simp
    show (if (keyK (nD p.1)).isSome = true then mrg (putKs (a.map fun p => nD p.1) (nD p.1)) (putDs (a.map fun p => nD p.1) (a.map fun p => nD p.2) (nD p.1) (nD p.2)) (row.map pD) else none) = _
    rw [if_pos (show (keyK (nD p.1)).isSome = true from rfl), e1, e2, mrg_n row (a ++ [p]) (by simpa using nd)]
    simp
theorem getK_n : ∀ (row : List (Nat × Nat)) (k h : Nat), (row.map (·.1)).Nodup → (k, h) ∈ row → getK (row.map fun p => nD p.1) (row.map fun p => nD p.2) (nD k) = some (nD h)
  | [], k, h, _, hm => by cases hm
  | p :: row, k, h, nd, hm => by
    rw [List.map_cons, List.nodup_cons] at nd
    have e2 : eqB (nD p.1) (nD k) = decide (p.1 = k) := by
      have h : ((p.1 : Int) = (k : Int)) = (p.1 = k) := propext ⟨fun h => by omega, fun h => by rw [h]⟩
      simp [eqB, keyA, keyK, h]
    rw [List.map_cons, List.map_cons, getK, e2]
    rcases List.mem_cons.mp hm with z | z
    · rw [← z]
      simp
    · have hn : ¬ p.1 = k := fun q => nd.1 (List.mem_map.mpr ⟨(k, h), z, q.symm⟩)
      rw [if_neg (by simpa using hn)]
      exact getK_n row k h nd.2 z
theorem read_sp {m : Nat} {ts : List (List Nat)} (t : TOk m ts) {age : Int} {poss : List Nat} {rows : List (List (Nat × Nat))} {s k h : Nat} (hs : s < m) (hl : rows.length = m) (hn : ((rows.getD s []).map (·.1)).Nodup) (hr : (k, h) ∈ rows.getD s []) (hh : h < m) {Q : EV → List EV → Prop} {X : XV → List EV → Prop} (hq : Q (.v (nD h)) [.un, .un, .un, .un]) :
    (S_LogNote_read [.v (noteD m ts age poss rows), .v (nD s), .v (nD k), .v (.tup [])]).wp Q X := by
  unfold S_LogNote_read F_LogNote_read
  have e := row_get (rows := rows) (s := s) (by omega)
  generalize rows.getD s [] = R at *
  have e1 := mrg_n R [] (by simpa using hn)
  rw [List.nil_append] at e1
  have e2 := getK_n _ k h hn hr
  simp [-List.map_map, g_note ocl_c, l_machine, takeA, putA]
  refine need_st hs ?_
  simp [-List.map_map, g_note ocl_c, l_rows, takeA, putA, is_num _ (tyN_n k), numD, wp_get1]
  rw [e, wpO_some]
  simp [-List.map_map]
  rw [show mrg [] [] (R.map pD) = _ from e1, wpO_some]
  have g2 : gIsN (nD h) .non = some (.bl false) := rfl
  simp [-List.map_map, keyK, e2, g2, g_note ocl_c, l_machine, f_tables, takeA, putA]
  refine log_nil ?_
  simp [-List.map_map, putA, takeA]
  refine behind_sp t hh (log := []) (fun _ h => by cases h) rfl ?_
  simp [-List.map_map, putA, outs]
  exact hq
end K32

namespace K32
open PySem PyProof.Rows L2 DL
theorem k_pos : DL.putK "possible" NF = NF := by
  have n1 : ¬ ("machine" : Str) = "possible" := by decide
  have n2 : ¬ ("age" : Str) = "possible" := by decide
  simp [DL.putK, n1, n2]
theorem k_rows : DL.putK "rows" NF = NF := by
  have n1 : ¬ ("machine" : Str) = "rows" := by decide
  have n2 : ¬ ("age" : Str) = "rows" := by decide
  have n3 : ¬ ("possible" : Str) = "rows" := by decide
  simp [DL.putK, n1, n2, n3]
theorem k_age : DL.putK "age" NF = NF := by
  have n1 : ¬ ("machine" : Str) = "age" := by decide
  simp [DL.putK, n1]
section
variable {m : Nat} {ts : List (List Nat)} {age : Int} {poss : List Nat} {rows : List (List (Nat × Nat))}
theorem p_pos {d : D} : putN "possible" d NF (nV m ts age poss rows) = [macD m ts, .int age, d, .tup (rows.map prow)] := by
  have n1 : ¬ ("machine" : Str) = "possible" := by decide
  have n2 : ¬ ("age" : Str) = "possible" := by decide
  simp [putN, n1, n2]
theorem p_rows {d : D} : putN "rows" d NF (nV m ts age poss rows) = [macD m ts, .int age, .tup (poss.map nD), d] := by
  have n1 : ¬ ("machine" : Str) = "rows" := by decide
  have n2 : ¬ ("age" : Str) = "rows" := by decide
  have n3 : ¬ ("possible" : Str) = "rows" := by decide
  simp [putN, n1, n2, n3]
theorem p_age {d : D} : putN "age" d NF (nV m ts age poss rows) = [macD m ts, d, .tup (poss.map nD), .tup (rows.map prow)] := by
  have n1 : ¬ ("machine" : Str) = "age" := by decide
  simp [putN, n1]
end
/-- the note in a slot -/
abbrev noteE (m : Nat) (ts : List (List Nat)) (age : Int) (poss : List Nat) (rows : List (List (Nat × Nat))) : EV := .oi "LogNote" NF ((nV m ts age poss rows).map .v)
def KI (ts : List (List Nat)) (d : Nat) (e0 : List EV) (poss : List Nat) (rest : List D) (acc : List D × List D) (e : List EV) : Prop := e = e0 ∧ ∃ a b l : List Nat, poss = a ++ b ∧ rest = b.map nD ∧ acc.1 = l.map nD ∧ l.length ≤ a.length ∧ ∀ x, x ∈ l ↔ ∃ s ∈ a, cel ts d s = x
def MI (ts : List (List Nat)) (d : Nat) (e0 : List EV) (rows : List (List (Nat × Nat))) (rest acc : List D) (e : List EV) : Prop := e = e0 ∧ ∃ a b : List (List (Nat × Nat)), rows = a ++ b ∧ rest = b.map prow ∧ acc = (a.map (mov ts d)).map prow
theorem NI.row {m : Nat} {ts : List (List Nat)} (t : TOk m ts) {st log poss : List Nat} {rows : List (List (Nat × Nat))} (h : NI m ts st log poss rows) (hlt : ∀ s ∈ st, s < m) (hst : st.length ≤ m) (hlog : ∀ x ∈ log, x < ts.length) : ∀ row ∈ rows, row.length ≤ m ∧ ∀ p ∈ row, p.2 < m := fun row hr => by
  obtain ⟨s, hs, e⟩ := List.mem_iff_getElem.mp hr
  have g := h.good s (by rw [← h.len]; exact hs)
  have e2 : rows.getD s [] = row := by rw [List.getD_eq_getElem?_getD, List.getElem?_eq_getElem hs, e]; rfl
  rw [e2] at g
  refine ⟨Nat.le_trans g.len hst, fun p hp => ?_⟩
  obtain ⟨l, e3, _, h3, _⟩ := g.ex
  rw [e3] at hp
  obtain ⟨q, hq, rfl⟩ := List.mem_map.mp hp
  exact led_lt t (hlt _ (h3 q hq)) hlog
def RI (m : Nat) (ts : List (List Nat)) (age : Int) (st log poss' : List Nat) (rows0 rows : List (List (Nat × Nat))) (dd rr : D) (rest : List D) (e : List EV) : Prop := ∃ (found : List (List (Nat × Nat))) (l : List Nat) (s3 s5 : EV), rest = l.map nD ∧ (∀ s ∈ l, s ∈ poss') ∧ Mid m ts st log rows0 poss' l found ∧ e = [noteE m ts age poss' rows, .v dd, .v rr, s3, .ol ((found.map prow).map .v), s5]
theorem put_sp {m : Nat} {ts : List (List Nat)} (t : TOk m ts) {st log poss : List Nat} {rows : List (List (Nat × Nat))} {age : Int} (h : NI m ts st log poss rows) (hst : st.length ≤ m) (hlt : ∀ s ∈ st, s < m) (hlog : ∀ x ∈ log, x < ts.length) {d : Nat} (hd : d < ts.length) :
    (S_LogNote_put [noteE m ts age poss rows, .v (nD d)]).wp (fun r os => ∃ poss' rows', r = .v (.int (age + 1)) ∧ os = [noteE m ts (age + 1) poss' rows', .un] ∧ NI m ts st (log ++ [d]) poss' rows' ∧ ∀ c, CI m ts log rows c → CI m ts (log ++ [d]) rows' c) fun _ _ => False := by
  unfold S_LogNote_put F_LogNote_put
  have pl : ∀ x ∈ poss, x < m := fun x hx => by
    obtain ⟨a, ha, rfl⟩ := (h.mem x).mp hx
    exact led_lt t (hlt a ha) hlog
  simp [-List.map_map, l_machine, ocl_note, f_tables, takeA, putA]
  refine need_dd hd ?_
  simp [-List.map_map, putA, row_at t hd, l_possible, ocl_note, wp_keys]
  have m5 := t.m5
  have few := h.few
  refine dcB_wp (KI ts d [noteE m ts age poss rows, .v (nD d), .v (rowD (rowOf ts d)), .un, .un, .un] poss) (fun d' r acc e hI => ?_) (fun acc e hI => ?_) ⟨rfl, [], poss, [], rfl, rfl, rfl, Nat.le_refl _, fun x => ⟨fun z => (by cases z), fun ⟨_, z, _⟩ => (by cases z)⟩⟩
  · obtain ⟨rfl, a, b, l, h1, h2, h3, h4, h5⟩ := hI
    cases b with
    | nil => cases h2
    | cons x b =>
      cases h2
      have hx : x < m := pl x (by rw [h1]; simp)
      refine ⟨_, rfl, _, rfl, ?_⟩
      have la : a.length < poss.length := by rw [h1]; simp
      obtain ⟨l', e1, e2, e3⟩ := putKs_n l (cel ts d x)
      simp [-List.map_map, (cell_at t hd hx).1, keyK, wipeE, h3]
      refine ⟨by omega, rfl, a ++ [x], b, l', by simp [h1], rfl, e1, by simp; omega, fun y => ?_⟩
      rw [e2, h5]
      constructor
      · rintro (⟨s, hs, rfl⟩ | rfl)
        · exact ⟨s, List.mem_append_left _ hs, rfl⟩
        · exact ⟨x, by simp, rfl⟩
      · rintro ⟨s, hs, rfl⟩
        rcases List.mem_append.mp hs with z | z
        · exact .inl ⟨s, z, rfl⟩
        · rw [List.mem_singleton.mp z]; exact .inr rfl
  · obtain ⟨rfl, a, b, l, h1, h2, h3, h4, h5⟩ := hI
    cases b with
    | cons x b => cases h2
    | nil =>
      rw [List.append_nil] at h1
      subst h1
      obtain ⟨poss', g1, g2⟩ := gSrt_n l
      have pm : ∀ x, x ∈ poss' ↔ ∃ s ∈ poss, cel ts d s = x := fun x => g2.mem_iff.trans (h5 x)
      have pf : poss'.length ≤ poss.length := by rw [g2.length_eq]; exact h4
      have pl' : ∀ x ∈ poss', x < m := fun x hx => by
        obtain ⟨s, hs, rfl⟩ := (pm x).mp hx
        exact (cell_at t hd (pl s hs)).2
      simp [-List.map_map, backE, h3, g1, k_pos, p_pos, ocl_note, l_rows]
      refine lcB_wp (MI ts d [.oi "LogNote" NF [.v (macD m ts), .v (.int age), .v (.tup (poss'.map nD)), .v (.tup (rows.map prow))], .v (nD d), .v (rowD (rowOf ts d)), .un, .un, .un] rows) (fun d' r acc e hI => ?_) (fun acc e hI => ?_) ⟨rfl, [], rows, rfl, rfl, rfl⟩
      · obtain ⟨rfl, a, b, h6, h7, h8⟩ := hI
        cases b with
        | nil => cases h7
        | cons row b =>
          cases h7
          obtain ⟨r1, r2⟩ := h.row t hlt hst hlog row (by rw [h6]; simp)
          refine ⟨_, rfl, ?_⟩
          simp [-List.map_map, takeA]
          refine moved_sp (row_ok t hd).1 r2 (by omega) ?_
          have ll : a.length < m := by
            have := h.len
            rw [h6] at this
            simp at this
            omega
          simp [-List.map_map, putA, wipeE, h8]
          refine ⟨by omega, rfl, a ++ [row], b, by simp [h6], rfl, ?_⟩
          simp [mov, cel]
      · obtain ⟨rfl, a, b, h6, h7, h8⟩ := hI
        cases b with
        | cons row b => cases h7
        | nil =>
          rw [List.append_nil] at h6
          subst h6
          simp [-List.map_map, backE, h8, l_possible, ocl_note]
          refine forM_wp (RI m ts age st (log ++ [d]) poss' (rows.map (mov ts d)) rows (nD d) (rowD (rowOf ts d))) (fun d' rest e hR => ?_) (fun e hR => ?_) ⟨rows.map (mov ts d), poss', _, _, rfl, (fun _ h => h), h.mid d poss', rfl⟩
          · obtain ⟨found, l, s3, s5, h9, h10, h11, rfl⟩ := hR
            cases l with
            | nil => cases h9
            | cons s l =>
              cases h9
              have hs := h10 s (List.mem_cons_self ..)
              have sm := pl' s hs
              refine ⟨_, rfl, ?_⟩
              have e1 := row_get (rows := found) (s := s) (by rw [h11.len]; exact sm)
              have gl := (h11.good s sm).len
              have fl := h11.len
              generalize hR : found.getD s [] = R at *
              simp [-List.map_map, takeA]
              rw [e1, wpO_some]
              refine ret_sp (by omega) fun r hw => ?_
              have ix : ixN found.length (s : Int) = some s := by
                unfold ixN
                simp
                omega
              simp [-List.map_map, putA, ix]
              refine ⟨found.set s r, l, .v (nD s), s5, rfl, fun x hx => h10 x (List.mem_cons_of_mem _ hx), h11.step sm ?_ (by rw [hR]; exact hw), ?_⟩
              · obtain ⟨s0, hs0, e2⟩ := (pm s).mp hs
                obtain ⟨a, ha, e3⟩ := (h.mem s0).mp hs0
                exact ⟨a, ha, by rw [led_app, e3, ← e2]; rfl⟩
              · simp [List.map_set]
          · obtain ⟨found, l, s3, s5, h9, h10, h11, rfl⟩ := hR
            cases l with
            | cons s l => cases h9
            | nil =>
              simp [-List.map_map, ocl_note, k_rows, p_rows]
              refine wp_fldAug (c := "LogNote") (fn := NF) (n := age) rfl rfl ocl_note ?_ (by decide) ?_
              · have n1 : ¬ ("machine" : Str) = "age" := by decide
                simp [lookF, n1]
              · have n1 : ¬ ("machine" : Str) = "age" := by decide
                simp [-List.map_map, ocl_note, k_age, putN, lookF, n1, outs]
                exact ⟨poss', found, ⟨rfl, rfl⟩, h11.ni h pm pf, fun a b c hc => hc.put h11⟩
end K32

namespace K32
open PySem PyProof.Rows L2 DL
theorem gNe_nil {xs : List D} (h : eqKs xs = true) (hd : dpts xs ≤ 60) : gNe (.lst xs) (.lst []) = some (.bl (!xs.isEmpty)) := by
  obtain ⟨p, a1, a2, a3, a4⟩ := eqK_ok (d := .lst xs) (by simpa [eqK] using h)
  have e : SeqAt.shaped p = true := by
    unfold SeqAt.shaped
    rw [a2, a3]
    simp [dpt]
    omega
  have e2 : toP (.lst []) = some (.list []) := rfl
  have e3 : SeqAt.shaped (.list []) = true := by decide
  unfold gNe eqD
  rw [a1, e2]
  simp only [e, e3, Bool.and_self, if_true, Option.map_some]
  obtain ⟨ps, b1, b2⟩ := Option.map_eq_some_iff.mp (show (toPs xs).map PyData.list = some p from a1)
  subst b2
  cases xs with
  | nil =>
    cases b1
    rfl
  | cons x xs =>
    cases ps with
    | nil =>
      unfold toPs at b1
      cases h1 : toP x with
      | none => rw [h1] at b1; cases b1
      | some q =>
        cases h2 : toPs xs with
        | none => rw [h1, h2] at b1; cases b1
        | some qs => rw [h1, h2] at b1; cases b1
    | cons q qs => simp [PyData.eqv, PyData.eqvAll]
theorem eqKs_n : ∀ l : List Nat, eqKs (l.map nD) = true
  | [] => rfl
  | x :: l => by rw [List.map_cons, eqKs, eqKs_n l]; rfl
theorem dpts_n : ∀ l : List Nat, dpts (l.map nD) = 0
  | [] => rfl
  | x :: l => by rw [List.map_cons, dpts, dpts_n l]; rfl
/-- starts -/
structure StOk (m : Nat) (st : List Nat) : Prop where
  ne : st ≠ []
  asc : st.Pairwise (· < ·)
  lt : ∀ s ∈ st, s < m
theorem StOk.nd {m : Nat} {st : List Nat} (h : StOk m st) : st.Nodup := h.asc.imp fun z => Nat.ne_of_lt z
theorem StOk.len {m : Nat} {st : List Nat} (h : StOk m st) : st.length ≤ m := by
  have := nd_le (s := List.range m) h.nd fun x hx => List.mem_range.mpr (h.lt x hx)
  simpa using this
theorem rgD_n (m : Nat) : rgD 0 m = (List.range m).map nD := by
  unfold rgD
  apply List.ext_getElem
  · simp
  · intro i h1 h2
    simp
def SI (m : Nat) (rest acc : List D) (e : List EV) : Prop := ∃ (g c : Int) (a b l : List Nat), e = [bx g c, .v (nD m), .un, .un] ∧ List.range m = a ++ b ∧ rest = b.map nD ∧ acc = l.map nD ∧ l.Sublist a
theorem starts_sp (g c : Int) {m : Nat} (m1 : 1 ≤ m) (m5 : m ≤ 5) : (S__law_starts [bx g c, .v (nD m)]).wp (fun r os => ∃ st g' c', StOk m st ∧ r = .v (.lst (st.map nD)) ∧ os = [bx g' c', .un]) fun _ _ => False := by
  unfold S__law_starts F__law_starts
  simp [-List.map_map, takeA, isOwn]
  refine (take_sp g c 3 (by decide) (by decide)).mono (fun r os h => ?_) fun _ _ h => h.elim
  obtain ⟨i, g, c, rfl, rfl, hi, hj⟩ := h
  have full : StOk m (List.range m) := ⟨fun z => by
    have := congrArg List.length z
    simp at this
    omega, List.pairwise_lt_range, fun s hs => List.mem_range.mp hs⟩
  have sm : small62 (m : Int) = true := by unfold small62; simp; omega
  by_cases hz : 0 < i
  · simp [-List.map_map, putA, hz, outs, rgD_n]
    exact ⟨by omega, _, full, rfl⟩
  · simp [-List.map_map, putA, hz, sm]
    refine lcB_wp (SI m) (fun d rest acc e h => ?_) (fun acc e h => ?_) ⟨g, c, [], List.range m, [], rfl, rfl, rgD_n m, rfl, List.Sublist.refl _⟩
    · obtain ⟨g, c, a, b, l, rfl, h1, h2, rfl, h4⟩ := h
      cases b with
      | nil => cases h2
      | cons x b =>
        cases h2
        have ll : l.length ≤ 5 := by
          have e1 := congrArg List.length h1
          have e2 := h4.length_le
          simp at e1
          omega
        refine ⟨_, rfl, ?_⟩
        simp [-List.map_map, takeA, isOwn]
        refine (take_sp g c 2 (by decide) (by decide)).mono (fun r os h => ?_) fun _ _ h => h.elim
        obtain ⟨i, g, c, rfl, rfl, hi, hj⟩ := h
        by_cases h0 : i = 0
        · simp [-List.map_map, putA, h0, wipeE]
          exact ⟨by omega, g, c, a ++ [x], b, l ++ [x], rfl, by simp [h1], rfl, by simp, List.Sublist.append h4 (List.Sublist.refl _)⟩
        · simp [-List.map_map, putA, h0, wipeE]
          exact ⟨g, c, a ++ [x], b, l, rfl, by simp [h1], rfl, rfl, h4.trans (List.sublist_append_left _ _)⟩
    · obtain ⟨g, c, a, b, l, rfl, h1, h2, rfl, h4⟩ := h
      cases b with
      | cons x b => cases h2
      | nil =>
        rw [List.append_nil] at h1
        subst h1
        have gn := gNe_nil (eqKs_n l) (by rw [dpts_n]; omega)
        simp [-List.map_map, backE, gn]
        by_cases hl : l = []
        · subst hl
          simp [-List.map_map, takeA, isOwn]
          refine (take_sp g c m (by omega) (by omega)).mono (fun r os h => ?_) fun _ _ h => h.elim
          obtain ⟨i, g, c, rfl, rfl, hi, hj⟩ := h
          obtain ⟨k, rfl⟩ : ∃ k : Nat, i = k := ⟨i.toNat, by omega⟩
          simp [-List.map_map, putA, outs]
          exact ⟨[k], ⟨by simp, by simp, fun s hs => by rw [List.mem_singleton.mp hs]; omega⟩, rfl⟩
        · simp [-List.map_map, hl, outs]
          exact ⟨l, ⟨hl, List.Pairwise.sublist h4 List.pairwise_lt_range, fun s hs => List.mem_range.mp (h4.subset hs)⟩, rfl⟩
end K32

namespace K32
open PySem PyProof.Rows L2 DL
theorem zp_n : ∀ (l : List Nat), l.Pairwise (· < ·) → ∀ d ∈ zpD (l.map nD) ((l.drop 1).map nD), ∃ a b : Nat, d = .pr (nD a) (nD b) ∧ a < b
  | [], _, d, hd => by simp [zpD] at hd
  | [x], _, d, hd => by simp [zpD] at hd
  | x :: y :: l, h, d, hd => by
    rw [List.pairwise_cons] at h
    have e : zpD ((x :: y :: l).map nD) (((x :: y :: l).drop 1).map nD) = .pr (nD x) (nD y) :: zpD ((y :: l).map nD) (((y :: l).drop 1).map nD) := rfl
    rw [e] at hd
    rcases List.mem_cons.mp hd with z | z
    · exact ⟨x, y, z, h.1 y (List.mem_cons_self ..)⟩
    · exact zp_n (y :: l) h.2 d z
theorem asc_sp {m : Nat} {st : List Nat} (h : StOk m st) (m5 : m ≤ 5) {Q : EV → List EV → Prop} {X : XV → List EV → Prop} (hq : Q (.v (.bl true)) [.un, .un]) : (S_is_ascending [.v (.lst (st.map nD)), .v (nD m)]).wp Q X := by
  unfold S_is_ascending F_is_ascending
  have hl := h.len
  have h0 : ¬ st = [] := h.ne
  simp [-List.map_map, takeA, putA, is_seq (.lst (st.map nD)) (fun z => by cases z), seqD, h0]
  refine lc_map (fun _ => true) (fun _ => .bl true) (fun d hd => ?_) (by simp; omega) ?_
  · obtain ⟨x, hx, rfl⟩ := List.mem_map.mp hd
    refine ⟨_, rfl, ?_⟩
    have := h.lt x hx
    simp [-List.map_map, takeA, putA, is_blw _ _ (tyN_n x), wipeE, blwD, this]
  · have e : (st.map nD).filter (fun _ => true) = st.map nD := List.filter_eq_self.mpr fun _ _ => rfl
    rw [e]
    have c1 : DL.cutD (st.map nD) (some 1) none = (st.drop 1).map nD := by
      have := cut_from (st.map nD) 1
      rw [List.map_drop]
      exact this
    simp [-List.map_map, wipeE, backE, c1, gZip]
    have e0 : List.map (fun _ => D.bl true) (st.map nD) = st.map (fun _ => D.bl true) := by rw [List.map_map]; rfl
    try rw [e0, gAll_t]
    try simp [-List.map_map]
    refine lc_map (fun _ => true) (fun _ => .bl true) (fun d hd => ?_) ?_ ?_
    · obtain ⟨a, b, rfl, hab⟩ := zp_n st h.asc d (by simpa using hd)
      refine ⟨_, rfl, ?_⟩
      simp [-List.map_map, wipeE, hab]
    · simp [zpD]
      omega
    · have e : ∀ l : List D, l.filter (fun _ => true) = l := fun l => List.filter_eq_self.mpr fun _ _ => rfl
      rw [e]
      simp [-List.map_map, wipeE, backE, outs]
      exact hq
theorem chst_sp {m : Nat} {ts : List (List Nat)} {st : List Nat} (h : StOk m st) (m5 : m ≤ 5) {Q : EV → List EV → Prop} {X : XV → List EV → Prop} (hq : Q (.v (.tup (st.map nD))) [.un, .un]) : (S_check_starts [.v (macD m ts), .v (.lst (st.map nD))]).wp Q X := by
  unfold S_check_starts F_check_starts
  have g : gIsN (.lst (st.map nD)) .non = some (.bl false) := rfl
  simp [-List.map_map, g, f_states, takeA]
  refine asc_sp h m5 ?_
  simp [-List.map_map, putA, outs]
  exact hq
/-- the rows at first -/
def row0 (st : List Nat) (s : Nat) : List (Nat × Nat) := if s ∈ st then [(0, s)] else []
theorem NI.init {m : Nat} {ts : List (List Nat)} {st : List Nat} (h : StOk m st) : NI m ts st [] st ((List.range m).map (row0 st)) := by
  have gd : ∀ s < m, ((List.range m).map (row0 st)).getD s [] = row0 st s := fun s hs => by
    rw [List.getD_eq_getElem?_getD, List.getElem?_map, List.getElem?_range hs]
    rfl
  refine ⟨by simp, fun s hs => ?_, fun x => ⟨fun hx => ⟨x, hx, rfl⟩, fun ⟨a, ha, e⟩ => by rw [← e]; exact ha⟩, fun s hs => ?_, h.len⟩
  · rw [gd s hs]
    unfold row0
    by_cases z : s ∈ st
    · rw [if_pos z]; exact Good.one z
    · rw [if_neg z]; exact Good.nil
  · rw [gd s (h.lt s hs)]
    unfold row0
    rw [if_pos hs]
    exact ⟨0, [], rfl⟩
theorem init_sp {m : Nat} {ts : List (List Nat)} {st : List Nat} (h : StOk m st) (m5 : m ≤ 5) {Q : EV → List EV → Prop} {X : XV → List EV → Prop} (hq : Q (.v .non) [noteE m ts 0 st ((List.range m).map (row0 st)), .un, .un]) :
    (S_LogNote___init__ [.oi "LogNote" [] [], .v (macD m ts), .v (.lst (st.map nD))]).wp Q X := by
  unfold S_LogNote___init__ F_LogNote___init__
  have n1 : ¬ ("machine" : Str) = "age" := by decide
  have n2 : ¬ ("machine" : Str) = "possible" := by decide
  have n3 : ¬ ("age" : Str) = "possible" := by decide
  have n4 : ¬ ("machine" : Str) = "rows" := by decide
  have n5 : ¬ ("age" : Str) = "rows" := by decide
  have n6 : ¬ ("possible" : Str) = "rows" := by decide
  have sm : small62 (m : Int) = true := by unfold small62; simp; omega
  simp [-List.map_map, ocl_note, takeA, DL.putK, putN, n1]
  refine chst_sp h m5 ?_
  simp [-List.map_map, ocl_note, putA, DL.putK, putN, n1, n2, n3, f_states, sm, rgD_n]
  refine lc_map (fun _ => true) (fun d => match d with
    | .int i => prow (row0 st i.toNat)
    | _ => .non) (fun d hd => ?_) (by simp; omega) ?_
  · obtain ⟨x, hx, rfl⟩ := List.mem_map.mp hd
    refine ⟨_, rfl, ?_⟩
    by_cases z : x ∈ st
    · simp [-List.map_map, ocl_note, wipeE, lookF, n2, n3, gIn_n, z, row0]
    · simp [-List.map_map, ocl_note, wipeE, lookF, n2, n3, gIn_n, z, row0]
  · have e : ∀ l : List D, l.filter (fun _ => true) = l := fun l => List.filter_eq_self.mpr fun _ _ => rfl
    rw [e]
    have e2 : List.map (fun d => match d with
      | .int i => prow (row0 st i.toNat)
      | _ => D.non) ((List.range m).map nD) = ((List.range m).map (row0 st)).map prow := by
      rw [List.map_map, List.map_map]
      apply List.map_congr_left
      intro x _
      rfl
    rw [e2]
    simp [-List.map_map, wipeE, backE, ocl_note, DL.putK, putN, n4, n5, n6, outs]
    exact hq
end K32

namespace K32
open PySem PyProof.Rows L2 DL
def B0 : MS := (setO 1 (callF 2 S__law_box [] (consD (rd 0) (consD (cst (.int 0)) nilX))))
def B1 : MS := (setS 2 (frzM (callF 1 S__law_tables [] (consI 1 nilX))))
def B2 : MS := (parN [3, 4] (consO (vM (onL gLen (consM (bin2 gIx (rd 2) (cst (.int 0))) nil0))) (consO (vM (frzM (callF 2 S__law_starts [] (consI 1 (consD (onL gLen (consM (bin2 gIx (rd 2) (cst (.int 0))) nil0)) nilX))))) nilO)))
def B3 : MS := (parN [5, 6, 7] (consO (makeK "LogNote" 1 1 3 S_LogNote___init__ kb_0_gD (consM (frzM (makeF "Machine" 2 S_Machine___init__ [] (consD (rd 2) nilX))) nil0) (consM (rd 4) nil0)) (consO (vM (onL gTup nil0)) (consO (ownL nil0) nilO))))
def C0 : MS := (setO 1 (callF 2 S__law_box [] (consD (rd 0) (consD (rd 8) nilX))))
def T0 : MS := (setS 10 (frzM (callF 2 S__law_pick [] (consI 1 (consD (onL gLstOf (consM (pkFld ocl 5 "possible") nil0)) nilX)))))
def T1 : MS := (appS 7 (onL gTup (consM (rd 10) (consM (lendM (frzM (methD ["LogNote"] "mark" 2 S_LogNote_mark [] (rd 5) (consD (rd 10) nilX)))) (consM (onL gLen (consM (rd 6) nil0)) nil0)))))
def T : MS := seqS T0 (T1)
def C1 : MS := forS (onI gRg1 (consM (frzM (callF 2 S__law_take [] (consI 1 (consD (cst (.int 4)) nilX)))) nil0)) (put 9) T
def C2 : MS := (ifS (andT (lendT (asB (bin2 gNe (rd 7) (onL gLst nil0)))) (asB (bin2 gEq (frzM (callF 2 S__law_take [] (consI 1 (consD (cst (.int 3)) nilX)))) (cst (.int 0))))) (popS 7 (frzM (callF 2 S__law_take [] (consI 1 (consD (lendM (onL gLen (consM (rd 7) nil0))) nilX))))) .nx)
def C3 : MS := (ifS (notT (asB (lendM (frzM (callF 5 S__law_copies_right [] (consD (rd 5) (consD (rd 2) (consD (rd 4) (consD (rd 6) (consD (rd 7) nilX)))))))))) (retS (cst (.bl false))) .nx)
def C4 : MS := (ifS (asB (bin2 gNe (lstM (bnd (seqI (pkFld ocl 5 "rows")) (lcB [16] (put 16) (asB (bin2 gGt (onL gLen (consM (rd 16) nil0)) (onL gLen (consM (rd 4) nil0)))) (rd 16)))) (onL gLst nil0))) (retS (cst (.bl false))) .nx)
def C5 : MS := (setS 11 (frzM (callF 2 S__law_take [] (consI 1 (consD (onL gLen (consM (rd 2) nil0)) nilX)))))
def C6 : MS := (dropS (frzM (methF ["LogNote"] 5 "put" 2 S_LogNote_put [] (consD (rd 11) nilX))))
def C7 : MS := (setS 6 (bin2 gAdd (rd 6) (onL gTup (consM (rd 11) nil0))))
def C : MS := seqS C0 (seqS C1 (seqS C2 (seqS C3 (seqS C4 (seqS C5 (seqS C6 (C7)))))))
def B4 : MS := forS (onI gRg2 (consM (cst (.int 1)) (consM (onL gMax2 (consM (cst (.int 12)) (consM (onL gMin2 (consM (onL gLen (consM (rd 0) nil0)) (consM (cst (.int 40)) nil0))) nil0))) nil0))) (put 8) C
def B5 : MS := (setO 12 (dnewO true))
def U0 : MS := (setS 15 (frzM (callF 3 S__law_led [] (consD (rd 2) (consD (rd 10) (consD (slM (rd 6) (asI (rd 14)) noneP) nilX))))))
def U1 : MS := (ifS (orT (asB (bin2 gNe (pkGetT 12 (consM (rd 10) (consM (rd 13) nil0)) (rd 15)) (rd 15))) (asB (bin2 gNe (lendM (frzM (methD ["LogNote"] "read" 4 S_LogNote_read [(DL.D.tup [])] (rd 5) (consD (rd 10) (consD (rd 13) nilX))))) (rd 15)))) (retS (cst (.bl false))) .nx)
def U2 : MS := (dputT 12 (rd 15) (consM (rd 10) (consM (rd 13) nil0)))
def U : MS := seqS U0 (seqS U1 (U2))
def B6 : MS := forS (seqI (rdF 7)) (gsTup 3 (gsCons (put 10) (gsCons (put 13) (gsCons (put 14) nilG)))) U
def B7 : MS := (retS (cst (.bl true)))
def B : MS := seqS B0 (seqS B1 (seqS B2 (seqS B3 (seqS B4 (seqS B5 (seqS B6 (B7)))))))
theorem B_eq : F_law = B := rfl
end K32

namespace K32
open PySem PyProof.Rows L2 DL
theorem box2 (ns : List Int) (k : Int) (hk : 0 ≤ k) (hn : ns.length < 1000) : (S__law_box [.v (.scr ns), .v (.int k)]).wp (fun r os => ∃ g c, r = bx g c ∧ os = [.un, .un]) fun _ _ => False := by
  unfold S__law_box F__law_box
  by_cases h : k < ns.length
  · obtain ⟨h2, e⟩ := atI_get (us := ns) hk h
    simp [e, outs, h, Int.not_le.mpr h]
    omega
  · by_cases hz : ns.length = 0
    · have e : ns = [] := List.length_eq_zero_iff.mp hz
      subst e
      simp [outs, hk]
      omega
    · have hp : (0 : Int) < ns.length := by omega
      obtain ⟨h2, e⟩ := atI_get (us := ns) (i := k % ns.length) (Int.emod_nonneg _ (by omega)) (Int.emod_lt_of_pos _ hp)
      have hp2 : 0 < ns.length := by omega
      simp [e, outs, h, Int.not_lt.mp h, hp2]
      omega
abbrev cD (c : Nat × Nat × Nat) : D := .tup [nD c.1, nD c.2.1, nD c.2.2]
/-- the store as it stands -/
structure Wd (m : Nat) (ts : List (List Nat)) (st log poss : List Nat) (rows : List (List (Nat × Nat))) (cs : List (Nat × Nat × Nat)) : Prop where
  t : TOk m ts
  s : StOk m st
  n : NI m ts st log poss rows
  l : ∀ x ∈ log, x < ts.length
  c : ∀ c ∈ cs, CI m ts log rows c
def OI (rest : List D) (cs : List (Nat × Nat × Nat)) (e0 : List EV) (e : List EV) : Prop := ∃ (l : List (Nat × Nat × Nat)) (s5 s6 s7 s8 s9 : EV), rest = l.map cD ∧ (∀ c ∈ l, c ∈ cs) ∧ e = e0 ++ [s5, s6, s7, s8, s9]
def II (st : List Nat) (rest : List D) (e0 : List EV) (e : List EV) : Prop := ∃ (l : List Nat) (s9 : EV), rest = l.map nD ∧ (∀ a ∈ l, a ∈ st) ∧ e = e0 ++ [s9]
theorem right_sp {m : Nat} {ts : List (List Nat)} {st log poss : List Nat} {rows : List (List (Nat × Nat))} {cs : List (Nat × Nat × Nat)} {age : Int} (w : Wd m ts st log poss rows cs) {Q : EV → List EV → Prop} {X : XV → List EV → Prop} (hq : Q (.v (.bl true)) [.un, .un, .un, .un, .un]) :
    (S__law_copies_right [.v (noteD m ts age poss rows), .v (.lst (ts.map rowD)), .v (.lst (st.map nD)), .v (.tup (log.map nD)), .v (.lst (cs.map cD))]).wp Q X := by
  unfold S__law_copies_right F__law_copies_right
  simp [-List.map_map]
  refine forM_wp (fun rest e => OI rest cs [.v (noteD m ts age poss rows), .v (.lst (ts.map rowD)), .v (.lst (st.map nD)), .v (.tup (log.map nD)), .v (.lst (cs.map cD))] e) (fun d rest e h => ?_) (fun e h => ?_) ⟨cs, _, _, _, _, _, rfl, (fun _ h => h), rfl⟩
  · obtain ⟨l, s5, s6, s7, s8, s9, h1, h2, rfl⟩ := h
    cases l with
    | nil => cases h1
    | cons c l =>
      cases h1
      have ci := w.c c (h2 c (List.mem_cons_self ..))
      have mk := (w.n.good c.1 ci.lt).marks
      have hh : led ts c.1 (log.drop c.2.2) < m := led_lt w.t ci.lt fun x hx => w.l x (List.mem_of_mem_drop hx)
      refine ⟨_, rfl, ?_⟩
      have nr : ¬ ("read" : Str) ∈ NF := by decide
      simp [-List.map_map, takeA]
      refine ⟨by decide, read_sp w.t (k := c.2.1) (h := led ts c.1 (log.drop c.2.2)) ci.lt w.n.len mk ci.here hh ?_⟩
      simp [-List.map_map, putA]
      refine forM_wp (fun rest e => II st rest [.v (noteD m ts age poss rows), .v (.lst (ts.map rowD)), .v (.lst (st.map nD)), .v (.tup (log.map nD)), .v (.lst (cs.map cD)), .v (nD c.1), .v (nD c.2.1), .v (nD c.2.2), .v (nD (led ts c.1 (log.drop c.2.2)))] e) (fun d rest e h => ?_) (fun e h => ?_) ⟨st, _, rfl, (fun _ h => h), rfl⟩
      · obtain ⟨l2, s9, h3, h4, rfl⟩ := h
        have c1 : DL.cutD (log.map nD) none (some (c.2.2 : Int)) = (log.take c.2.2).map nD := by rw [cut_to, List.map_take]
        cases l2 with
        | nil => cases h3
        | cons a l2 =>
          cases h3
          have ha := h4 a (List.mem_cons_self ..)
          have am := w.s.lt a ha
          refine ⟨_, rfl, ?_⟩
          simp [-List.map_map, takeA, c1]
          refine led_sp w.t am (log := log.take c.2.2) (fun x hx => w.l x (List.mem_of_mem_take hx)) (by rw [List.map_take]; rfl) ?_
          by_cases he : led ts a (log.take c.2.2) = c.1
          · have e2 : led ts c.1 (log.drop c.2.2) = led ts a log := by rw [← he, led_cut]
            simp [-List.map_map, putA, he, takeA]
            refine led_sp w.t am w.l rfl ?_
            simp [-List.map_map, putA, e2]
            exact ⟨l2, _, rfl, fun d hd => h4 d (List.mem_cons_of_mem _ hd), rfl⟩
          · have he2 : ¬ ((led ts a (log.take c.2.2) : Int) = c.1) := by omega
            simp [-List.map_map, putA, he2]
            exact ⟨l2, _, rfl, fun d hd => h4 d (List.mem_cons_of_mem _ hd), rfl⟩
      · obtain ⟨l2, s9, h3, h4, rfl⟩ := h
        exact ⟨l, _, _, _, _, _, rfl, fun x hx => h2 x (List.mem_cons_of_mem _ hx), rfl⟩
  · obtain ⟨l, s5, s6, s7, s8, s9, h1, h2, rfl⟩ := h
    simp [-List.map_map, outs]
    exact hq
end K32

namespace K32
open PySem PyProof.Rows L2 DL
/-- the law's slots -/
abbrev ME (ns : List Int) (g c : Int) (m : Nat) (ts : List (List Nat)) (st : List Nat) (age : Int) (poss : List Nat) (rows : List (List (Nat × Nat))) (log : List Nat) (cs : List (Nat × Nat × Nat)) (y8 y9 y10 y11 y12 y13 y14 y15 y16 : EV) : List EV :=
  [.v (.scr ns), bx g c, .v (.lst (ts.map rowD)), .v (nD m), .v (.lst (st.map nD)), noteE m ts age poss rows, .v (.tup (log.map nD)), .ol ((cs.map cD).map .v), y8, y9, y10, y11, y12, y13, y14, y15, y16]
section
variable {ns : List Int} {m : Nat} {ts : List (List Nat)} {st log poss : List Nat} {rows : List (List (Nat × Nat))} {cs : List (Nat × Nat × Nat)} {age g c : Int} {y8 y9 y10 y11 y12 y13 y14 y15 y16 : EV} {P : Pe}
theorem Wd.pos (w : Wd m ts st log poss rows cs) : poss ≠ [] ∧ (∀ x ∈ poss, x < m) := by
  refine ⟨fun z => ?_, fun x hx => ?_⟩
  · cases hs : st with
    | nil => exact w.s.ne hs
    | cons a r =>
      have := (w.n.mem (led ts a log)).mpr ⟨a, by rw [hs]; exact List.mem_cons_self .., rfl⟩
      rw [z] at this
      cases this
  · obtain ⟨a, ha, rfl⟩ := (w.n.mem x).mp hx
    exact led_lt w.t (w.s.lt a ha) w.l
theorem cC0 {k : Int} (hk : 0 ≤ k) (hn : ns.length < 1000) (q : ∀ g c, P.nx (ME ns g c m ts st age poss rows log cs (.v (.int k)) y9 y10 y11 y12 y13 y14 y15 y16)) : (C0 (ME ns g c m ts st age poss rows log cs (.v (.int k)) y9 y10 y11 y12 y13 y14 y15 y16)).wp P := by
  unfold C0
  simp [-List.map_map, takeA]
  refine (box2 ns k hk hn).mono (fun r os h => ?_) fun _ _ h => h.elim
  obtain ⟨g, c, rfl, rfl⟩ := h
  simp [-List.map_map, putA]
  exact q g c
theorem cT (w : Wd m ts st log poss rows cs) (hl : log.length ≤ 1000) (hc : cs.length < 1000) (q : ∀ g c s k, Wd m ts st log poss rows (cs ++ [(s, k, log.length)]) → P.nx (ME ns g c m ts st age poss rows log (cs ++ [(s, k, log.length)]) y8 y9 (.v (nD s)) y11 y12 y13 y14 y15 y16)) : (T (ME ns g c m ts st age poss rows log cs y8 y9 y10 y11 y12 y13 y14 y15 y16)).wp P := by
  have m5 := w.t.m5
  have few := w.n.few
  obtain ⟨p0, p1⟩ := w.pos
  have pl : 0 < poss.length := List.length_pos_iff.mpr p0
  have nr : ¬ ("mark" : Str) ∈ NF := by decide
  unfold T T0 T1
  simp [-List.map_map, ocl_note, l_possible, takeA, isOwn]
  refine (pick_sp g c (poss.map nD) (by simpa using pl) (by simp; omega)).mono (fun r os h => ?_) fun _ _ h => h.elim
  obtain ⟨d, g, c, rfl, rfl, hd⟩ := h
  obtain ⟨s, hs, rfl⟩ := List.mem_map.mp hd
  obtain ⟨k, r, hr⟩ := w.n.front s hs
  simp [-List.map_map, putA, takeA]
  refine ⟨by decide, mark_sp (p1 s hs) hs w.n.len hr ?_⟩
  simp [-List.map_map, putA]
  refine ⟨by omega, ?_⟩
  have := q g c s k ⟨w.t, w.s, w.n, w.l, fun x hx => by
    rcases List.mem_append.mp hx with z | z
    · exact w.c x z
    · rw [List.mem_singleton.mp z]
      exact CI.kept w.n (p1 s hs) hr⟩
  have e : (((cs ++ [(s, k, log.length)]).map cD).map EV.v) = (cs.map cD).map EV.v ++ [EV.v (.tup [nD s, nD k, nD log.length])] := by rw [List.map_append, List.map_append]; rfl
  rw [← e]
  exact this
def TI2 (ns : List Int) (m : Nat) (ts : List (List Nat)) (st : List Nat) (age : Int) (poss : List Nat) (rows : List (List (Nat × Nat))) (log : List Nat) (n : Nat) (y8 y11 y12 y13 y14 y15 y16 : EV) (rest : List D) (e : List EV) : Prop := ∃ (g c : Int) (cs : List (Nat × Nat × Nat)) (y9 y10 : EV), Wd m ts st log poss rows cs ∧ cs.length + rest.length ≤ n ∧ e = ME ns g c m ts st age poss rows log cs y8 y9 y10 y11 y12 y13 y14 y15 y16
theorem cC1 (w : Wd m ts st log poss rows cs) (hl : log.length ≤ 1000) (hc : cs.length < 900) (q : ∀ g c cs' y9 y10, Wd m ts st log poss rows cs' → cs'.length ≤ cs.length + 3 → P.nx (ME ns g c m ts st age poss rows log cs' y8 y9 y10 y11 y12 y13 y14 y15 y16)) : (C1 (ME ns g c m ts st age poss rows log cs y8 y9 y10 y11 y12 y13 y14 y15 y16)).wp P := by
  unfold C1
  simp [-List.map_map, takeA, isOwn]
  refine (take_sp g c 4 (by decide) (by decide)).mono (fun r os h => ?_) fun _ _ h => h.elim
  obtain ⟨i, g, c, rfl, rfl, hi, hj⟩ := h
  simp [-List.map_map, putA]
  refine ⟨small62_iff.mpr (by omega), forM_wp (TI2 ns m ts st age poss rows log (cs.length + 3) y8 y11 y12 y13 y14 y15 y16) (fun d rest e h => ?_) (fun e h => ?_) ⟨g, c, cs, y9, y10, w, by simp [rgD]; omega, rfl⟩⟩
  · obtain ⟨g, c, cs', y9, y10, w', hl', rfl⟩ := h
    rw [List.length_cons] at hl'
    refine ⟨_, rfl, ?_⟩
    exact cT (y9 := .v d) w' hl (by omega) fun g c s k w2 => ⟨g, c, _, _, _, w2, by simp; omega, rfl⟩
  · obtain ⟨g, c, cs', y9, y10, w', hl', rfl⟩ := h
    exact q g c cs' y9 y10 w' hl'
theorem eqK_cs : ∀ cs : List (Nat × Nat × Nat), eqKs (cs.map cD) = true
  | [] => rfl
  | x :: l => by rw [List.map_cons, eqKs, eqK_cs l]; rfl
theorem dp_cs : ∀ cs : List (Nat × Nat × Nat), dpts (cs.map cD) ≤ 1
  | [] => Nat.zero_le _
  | x :: l => by
    rw [List.map_cons, dpts]
    have := dp_cs l
    have e : dpt (cD x) = 1 := rfl
    omega
theorem Wd.sub (w : Wd m ts st log poss rows cs) {cs' : List (Nat × Nat × Nat)} (h : ∀ c ∈ cs', c ∈ cs) : Wd m ts st log poss rows cs' := ⟨w.t, w.s, w.n, w.l, fun c hc => w.c c (h c hc)⟩
theorem map_erase {α β : Type} (f : α → β) : ∀ (l : List α) (j : Nat), (l.map f).eraseIdx j = (l.eraseIdx j).map f
  | [], _ => rfl
  | x :: l, 0 => rfl
  | x :: l, j + 1 => by simp [map_erase f l j]
theorem cC2 (w : Wd m ts st log poss rows cs) (hc : cs.length < 1000) (q : ∀ g c cs', Wd m ts st log poss rows cs' → cs'.length ≤ cs.length → P.nx (ME ns g c m ts st age poss rows log cs' y8 y9 y10 y11 y12 y13 y14 y15 y16)) : (C2 (ME ns g c m ts st age poss rows log cs y8 y9 y10 y11 y12 y13 y14 y15 y16)).wp P := by
  unfold C2
  have gn := gNe_nil (eqK_cs cs) (Nat.le_trans (dp_cs cs) (by decide))
  by_cases h0 : cs = []
  · subst h0
    have gn0 : gNe (.lst []) (.lst []) = some (.bl false) := gn
    have tl : toD (.ol []) = some (.lst []) := rfl
    simp [-List.map_map, gn0, tl]
    exact q g c [] w (Nat.le_refl _)
  · have hp : 0 < cs.length := List.length_pos_iff.mpr h0
    have gn1 : gNe (.lst (cs.map cD)) (.lst []) = some (.bl true) := by
      rw [gn]
      simp [h0]
    simp [-List.map_map, gn1, takeA, isOwn]
    refine (take_sp g c 3 (by decide) (by decide)).mono (fun r os h => ?_) fun _ _ h => h.elim
    obtain ⟨i, g, c, rfl, rfl, hi, hj⟩ := h
    by_cases hz : i = 0
    · simp [-List.map_map, putA, hz, takeA, isOwn]
      refine (take_sp g c cs.length (by omega) (by omega)).mono (fun r os h => ?_) fun _ _ h => h.elim
      obtain ⟨j, g, c, rfl, rfl, hj0, hj1⟩ := h
      obtain ⟨j, rfl⟩ : ∃ k : Nat, j = k := ⟨j.toNat, by omega⟩
      have hjl : j < cs.length := by omega
      have sq : seqIndex? (j : Int) cs.length = some j := by
        have h1 : ¬ ((j : Int) < 0) := by omega
        have h2 : (0 : Int) ≤ (j : Int) := by omega
        have h3 : (j : Int) < (cs.length : Int) := by omega
        show (if (decide (0 ≤ (if (j : Int) < 0 then (j : Int) + (cs.length : Int) else (j : Int))) && decide ((if (j : Int) < 0 then (j : Int) + (cs.length : Int) else (j : Int)) < (cs.length : Int))) = true then some (if (j : Int) < 0 then (j : Int) + (cs.length : Int) else (j : Int)).toNat else none) = some j
        rw [if_neg h1, decide_eq_true h2, decide_eq_true h3]
        rfl
      simp [-List.map_map, putA, sq, hjl, map_erase]
      refine ⟨by omega, ?_⟩
      exact q g c (cs.eraseIdx j) (w.sub fun x hx => List.mem_of_mem_eraseIdx hx) (by rw [List.length_eraseIdx]; split <;> omega)
    · simp [-List.map_map, putA, hz]
      exact q g c cs w (Nat.le_refl _)
theorem cC3 (w : Wd m ts st log poss rows cs) (q : P.nx (ME ns g c m ts st age poss rows log cs y8 y9 y10 y11 y12 y13 y14 y15 y16)) : (C3 (ME ns g c m ts st age poss rows log cs y8 y9 y10 y11 y12 y13 y14 y15 y16)).wp P := by
  unfold C3
  simp [-List.map_map, takeA]
  refine right_sp w ?_
  simp [-List.map_map, putA]
  exact q
theorem cC4 (w : Wd m ts st log poss rows cs) (q : P.nx (ME ns g c m ts st age poss rows log cs y8 y9 y10 y11 y12 y13 y14 y15 .un)) : (C4 (ME ns g c m ts st age poss rows log cs y8 y9 y10 y11 y12 y13 y14 y15 .un)).wp P := by
  unfold C4
  have hl := w.n.len
  have m5 := w.t.m5
  simp [-List.map_map, ocl_note, l_rows]
  refine lc_map (fun _ => false) (fun d => d) (fun d hd => ?_) (by simp; omega) ?_
  · obtain ⟨row, hr, rfl⟩ := List.mem_map.mp hd
    refine ⟨_, rfl, ?_⟩
    obtain ⟨s, hs, e⟩ := List.mem_iff_getElem.mp hr
    have gl := (w.n.good s (by omega)).len
    have e2 : rows.getD s [] = row := by rw [List.getD_eq_getElem?_getD, List.getElem?_eq_getElem hs, e]; rfl
    rw [e2] at gl
    have hn : ¬ (st.length < row.length) := by omega
    simp [-List.map_map, wipeE, hn]
  · have e : (rows.map prow).filter (fun _ => false) = [] := List.filter_eq_nil_iff.mpr (fun _ _ => by simp)
    rw [e]
    have gn0 : gNe (.lst []) (.lst []) = some (.bl false) := gNe_nil (xs := []) rfl (by decide)
    simp [-List.map_map, wipeE, backE, gn0]
    exact q
theorem cC5 (w : Wd m ts st log poss rows cs) (q : ∀ g c (d : Nat), d < ts.length → P.nx (ME ns g c m ts st age poss rows log cs y8 y9 y10 (.v (nD d)) y12 y13 y14 y15 y16)) : (C5 (ME ns g c m ts st age poss rows log cs y8 y9 y10 y11 y12 y13 y14 y15 y16)).wp P := by
  have t1 := w.t.t1
  have t3 := w.t.t3
  unfold C5
  simp [-List.map_map, takeA, isOwn]
  refine (take_sp g c ts.length (by omega) (by omega)).mono (fun r os h => ?_) fun _ _ h => h.elim
  obtain ⟨j, g, c, rfl, rfl, hj0, hj1⟩ := h
  obtain ⟨j, rfl⟩ : ∃ k : Nat, j = k := ⟨j.toNat, by omega⟩
  simp [-List.map_map, putA]
  exact q g c j (by omega)
theorem cC6 (w : Wd m ts st log poss rows cs) {d : Nat} (hd : d < ts.length) (q : ∀ poss' rows', Wd m ts st (log ++ [d]) poss' rows' cs → P.nx (ME ns g c m ts st (age + 1) poss' rows' log cs y8 y9 y10 (.v (nD d)) y12 y13 y14 y15 y16)) : (C6 (ME ns g c m ts st age poss rows log cs y8 y9 y10 (.v (nD d)) y12 y13 y14 y15 y16)).wp P := by
  have np : ¬ ("put" : Str) ∈ NF := by decide
  unfold C6
  simp [-List.map_map, takeA, isOwn]
  refine ⟨by decide, (put_sp w.t w.n w.s.len w.s.lt w.l hd (age := age)).mono (fun r os h => ?_) fun _ _ h => h.elim⟩
  obtain ⟨poss', rows', rfl, rfl, h1, h2⟩ := h
  simp [-List.map_map, putA]
  refine q poss' rows' ⟨w.t, w.s, h1, fun x hx => ?_, fun c hc => h2 c (w.c c hc)⟩
  rcases List.mem_append.mp hx with z | z
  · exact w.l x z
  · rw [List.mem_singleton.mp z]; exact hd
theorem cC7 {d : Nat} (hl : log.length < 1000) (q : P.nx (ME ns g c m ts st age poss rows (log ++ [d]) cs y8 y9 y10 (.v (nD d)) y12 y13 y14 y15 y16)) : (C7 (ME ns g c m ts st age poss rows log cs y8 y9 y10 (.v (nD d)) y12 y13 y14 y15 y16)).wp P := by
  unfold C7
  simp [-List.map_map]
  refine ⟨by omega, ?_⟩
  have e : (log ++ [d]).map nD = log.map nD ++ [nD d] := by rw [List.map_append]; rfl
  rw [← e]
  exact q
end
end K32

namespace K32
open PySem PyProof.Rows L2 DL
theorem sqx {F1 F2 : MS} {e : List EV} {P : Pe} (h : (F1 e).wp ⟨fun e1 => (F2 e1).wp P, P.rt, P.bk, P.ct, P.ex⟩) : (seqS F1 F2 e).wp P := by
  rw [wp_seqS]
  exact h
section
variable {ns : List Int} {m : Nat} {ts : List (List Nat)} {st log poss : List Nat} {rows : List (List (Nat × Nat))} {cs : List (Nat × Nat × Nat)} {age g c : Int} {y8 y9 y10 y11 y12 y13 y14 y15 y16 : EV} {P : Pe}
theorem cC {k : Int} (hk : 0 ≤ k) (hn : ns.length < 1000) (w : Wd m ts st log poss rows cs) (hl : log.length < 1000) (hc : cs.length < 900)
    (q : ∀ g c log' poss' rows' cs' y9 y10 y11, Wd m ts st log' poss' rows' cs' → log'.length = log.length + 1 → cs'.length ≤ cs.length + 3 → P.nx (ME ns g c m ts st (age + 1) poss' rows' log' cs' (.v (.int k)) y9 y10 y11 y12 y13 y14 y15 .un)) :
    (C (ME ns g c m ts st age poss rows log cs (.v (.int k)) y9 y10 y11 y12 y13 y14 y15 .un)).wp P := by
  unfold C
  refine sqx (cC0 hk hn fun g c => ?_)
  refine sqx (cC1 w (by omega) hc fun g c cs1 y9 y10 w1 h1 => ?_)
  refine sqx (cC2 w1 (by omega) fun g c cs2 w2 h2 => ?_)
  refine sqx (cC3 w2 ?_)
  refine sqx (cC4 w2 ?_)
  refine sqx (cC5 w2 fun g c d hd => ?_)
  refine sqx (cC6 w2 hd fun poss' rows' w3 => ?_)
  refine cC7 hl ?_
  exact q g c _ poss' rows' cs2 y9 y10 _ w3 (by simp) (by omega)
def LI (ns : List Int) (m : Nat) (ts : List (List Nat)) (st : List Nat) (rest : List D) (e : List EV) : Prop := ∃ (g c age : Int) (log poss : List Nat) (rows : List (List (Nat × Nat))) (cs : List (Nat × Nat × Nat)) (y8 y9 y10 y11 : EV), Wd m ts st log poss rows cs ∧ log.length + rest.length ≤ 60 ∧ cs.length + 3 * rest.length ≤ 180 ∧ (∀ d ∈ rest, ∃ k : Int, d = .int k ∧ 0 ≤ k) ∧ e = ME ns g c m ts st age poss rows log cs y8 y9 y10 y11 .un .un .un .un .un
theorem cB4 (hn : ns.length < 1000) (w : Wd m ts st [] poss rows []) (q : ∀ g c age log poss rows cs y8 y9 y10 y11, Wd m ts st log poss rows cs → log.length ≤ 60 → cs.length ≤ 180 → P.nx (ME ns g c m ts st age poss rows log cs y8 y9 y10 y11 .un .un .un .un .un)) :
    (B4 (ME ns g c m ts st age poss rows [] [] y8 y9 y10 y11 .un .un .un .un .un)).wp P := by
  unfold B4
  simp [-List.map_map]
  generalize hX : (if (12 : Int) < (if (40 : Int) < (ns.length : Int) then 40 else (ns.length : Int)) then (if (40 : Int) < (ns.length : Int) then 40 else (ns.length : Int)) else 12) = X
  have hX1 : 12 ≤ X ∧ X ≤ 40 := by
    rw [← hX]
    split <;> split <;> omega
  refine ⟨⟨small62_iff.mpr (by omega), small62_iff.mpr (by omega)⟩, forM_wp (LI ns m ts st) (fun d rest e h => ?_) (fun e h => ?_) ⟨g, c, age, [], poss, rows, [], y8, y9, y10, y11, w, by simp [rgD]; omega, by simp [rgD]; omega, fun d hd => ?_, rfl⟩⟩
  · obtain ⟨g, c, age, log, poss, rows, cs, y8, y9, y10, y11, w, h1, h2, h3, rfl⟩ := h
    obtain ⟨k, rfl, hk⟩ := h3 _ (List.mem_cons_self ..)
    rw [List.length_cons] at h1 h2
    refine ⟨_, rfl, ?_⟩
    exact cC (y9 := y9) hk hn w (by omega) (by omega) fun g c log' poss' rows' cs' y9 y10 y11 w' h4 h5 => ⟨g, c, _, log', poss', rows', cs', _, y9, y10, y11, w', by omega, by omega, fun d hd => h3 d (List.mem_cons_of_mem _ hd), rfl⟩
  · obtain ⟨g, c, age, log, poss, rows, cs, y8, y9, y10, y11, w, h1, h2, h3, rfl⟩ := h
    exact q g c age log poss rows cs y8 y9 y10 y11 w (by simpa using h1) (by simpa using h2)
  · unfold rgD at hd
    obtain ⟨k, _, rfl⟩ := List.mem_map.mp hd
    exact ⟨_, rfl, by omega⟩
end
end K32

namespace K32
open PySem PyProof.Rows L2 DL
abbrev kD (q : Nat × Nat) : D := .tup [nD q.1, nD q.2]
abbrev keysL (L : List ((Nat × Nat) × Nat)) : List D := L.map fun q => kD q.1
abbrev valsL (L : List ((Nat × Nat) × Nat)) : List D := L.map fun q => nD q.2
theorem eqB_kD (a b : Nat × Nat) : eqB (kD a) (kD b) = decide (a = b) := by
  have e := eqB_t [.inl (a.1 : Int), .inl (a.2 : Int)] [.inl (b.1 : Int), .inl (b.2 : Int)]
  have e2 : eqB (kD a) (kD b) = decide (([.inl (a.1 : Int), .inl (a.2 : Int)] : List Key) = [.inl (b.1 : Int), .inl (b.2 : Int)]) := e
  rw [e2]
  congr 1
  obtain ⟨a1, a2⟩ := a
  obtain ⟨b1, b2⟩ := b
  simp only [List.cons.injEq, Sum.inl.injEq, and_true, Prod.mk.injEq, eq_iff_iff]
  omega
theorem getK_L (k : Nat × Nat) : ∀ (L : List ((Nat × Nat) × Nat)) (d : D), getK (keysL L) (valsL L) (kD k) = some d → ∃ h, d = nD h ∧ (k, h) ∈ L
  | [], d, e => by cases e
  | q :: L, d, e => by
    rw [show keysL (q :: L) = kD q.1 :: keysL L from rfl, show valsL (q :: L) = nD q.2 :: valsL L from rfl, getK, eqB_kD] at e
    by_cases h : q.1 = k
    · rw [if_pos (by simpa using h)] at e
      cases e
      exact ⟨q.2, rfl, by rw [← h]; exact List.mem_cons_self ..⟩
    · rw [if_neg (by simpa using h)] at e
      obtain ⟨x, h1, h2⟩ := getK_L k L d e
      exact ⟨x, h1, List.mem_cons_of_mem _ h2⟩
theorem repD_L (k : Nat × Nat) (h : Nat) : ∀ L : List ((Nat × Nat) × Nat), repD (keysL L) (valsL L) (kD k) (nD h) = valsL (L.map fun q => if q.1 = k then (k, h) else q)
  | [] => rfl
  | q :: L => by
    rw [show keysL (q :: L) = kD q.1 :: keysL L from rfl, show valsL (q :: L) = nD q.2 :: valsL L from rfl, repD, eqB_kD, repD_L k h L]
    by_cases e : q.1 = k
    · rw [if_pos (by simpa using e), List.map_cons, if_pos e]; rfl
    · rw [if_neg (by simpa using e), List.map_cons, if_neg e]; rfl
theorem put_L (L : List ((Nat × Nat) × Nat)) (k : Nat × Nat) (h : Nat) : ∃ L' : List ((Nat × Nat) × Nat), putKs (keysL L) (kD k) = keysL L' ∧ putDs (keysL L) (valsL L) (kD k) (nD h) = valsL L' ∧ (∀ q ∈ L', q ∈ L ∨ q = (k, h)) ∧ L'.length ≤ L.length + 1 := by
  unfold putKs putDs
  by_cases z : hasK (keysL L) (kD k) = true
  · rw [if_pos z, if_pos z, repD_L]
    refine ⟨_, ?_, rfl, fun q hq => ?_, by simp⟩
    · unfold keysL
      rw [List.map_map]
      apply List.map_congr_left
      intro q _
      by_cases e : q.1 = k
      · simp only [Function.comp]; rw [if_pos e, e]
      · simp only [Function.comp]; rw [if_neg e]
    · obtain ⟨p, hp, rfl⟩ := List.mem_map.mp hq
      by_cases e : p.1 = k
      · rw [if_pos e]; exact .inr rfl
      · rw [if_neg e]; exact .inl hp
  · rw [if_neg z, if_neg z]
    exact ⟨L ++ [(k, h)], by simp [keysL], by simp [valsL], fun q hq => by
      rcases List.mem_append.mp hq with y | y
      · exact .inl y
      · exact .inr (List.mem_singleton.mp y), by simp⟩
/-- the law's slots at its end -/
abbrev FE (ns : List Int) (g c : Int) (m : Nat) (ts : List (List Nat)) (st : List Nat) (age : Int) (poss : List Nat) (rows : List (List (Nat × Nat))) (log : List Nat) (cs : List (Nat × Nat × Nat)) (L : List ((Nat × Nat) × Nat)) (y8 y9 y10 y11 y13 y14 y15 y16 : EV) : List EV :=
  [.v (.scr ns), bx g c, .v (.lst (ts.map rowD)), .v (nD m), .v (.lst (st.map nD)), noteE m ts age poss rows, .v (.tup (log.map nD)), .v (.lst (cs.map cD)), y8, y9, y10, y11, .od true (keysL L) ((valsL L).map .v), y13, y14, y15, y16]
section
variable {ns : List Int} {m : Nat} {ts : List (List Nat)} {st log poss : List Nat} {rows : List (List (Nat × Nat))} {cs : List (Nat × Nat × Nat)} {L : List ((Nat × Nat) × Nat)} {age g c : Int} {y8 y9 y10 y11 y12 y13 y14 y15 y16 : EV} {P : Pe}
def LOk (rows : List (List (Nat × Nat))) (L : List ((Nat × Nat) × Nat)) : Prop := ∀ q ∈ L, (q.1.2, q.2) ∈ rows.getD q.1.1 []
theorem cU (w : Wd m ts st log poss rows cs) {x : Nat × Nat × Nat} (hx : x ∈ cs) (hL : LOk rows L) (hl : L.length < 1000)
    (q : ∀ L' y15, LOk rows L' → L'.length ≤ L.length + 1 → P.nx (FE ns g c m ts st age poss rows log cs L' y8 y9 (.v (nD x.1)) y11 (.v (nD x.2.1)) (.v (nD x.2.2)) y15 y16)) :
    (U (FE ns g c m ts st age poss rows log cs L y8 y9 (.v (nD x.1)) y11 (.v (nD x.2.1)) (.v (nD x.2.2)) y15 y16)).wp P := by
  have ci := w.c x hx
  have mk := (w.n.good x.1 ci.lt)
  have hh : led ts x.1 (log.drop x.2.2) < m := led_lt w.t ci.lt fun y hy => w.l y (List.mem_of_mem_drop hy)
  have c1 : DL.cutD (log.map nD) (some (x.2.2 : Int)) none = (log.drop x.2.2).map nD := by rw [cut_from, List.map_drop]
  unfold U
  refine sqx ?_
  unfold U0
  simp [-List.map_map, takeA, c1]
  refine led_sp w.t ci.lt (log := log.drop x.2.2) (fun y hy => w.l y (List.mem_of_mem_drop hy)) (by rw [List.map_drop]; rfl) ?_
  simp [-List.map_map, putA]
  unfold U1
  have here := ci.here
  generalize led ts x.1 (log.drop x.2.2) = h at hh here ⊢
  rw [wp_ifS, wp_orT, wp_asB, wp_bin2]
  refine wp_getT (K0 := keysL L) (ds := valsL L) (ks := [nD x.1, nD x.2.1]) (d := nD h) rfl plainL_m rfl rfl rfl (by simp) ?_
  have gd : (getK (keysL L) (valsL L) (.tup [nD x.1, nD x.2.1])).getD (nD h) = nD h := by
    cases e : getK (keysL L) (valsL L) (.tup [nD x.1, nD x.2.1]) with
    | none => rfl
    | some d =>
      obtain ⟨h', rfl, hm⟩ := getK_L (x.1, x.2.1) L d e
      have := mk.one_path (hL _ hm) here
      have this : h' = h := this
      rw [this]
      rfl
  rw [gd]
  simp [-List.map_map, takeA]
  refine ⟨by decide, read_sp w.t (k := x.2.1) (h := h) ci.lt w.n.len mk.marks here hh ?_⟩
  simp [-List.map_map, putA]
  unfold U2
  obtain ⟨L', e1, e2, e3, e4⟩ := put_L L (x.1, x.2.1) h
  refine wp_putT (K0 := keysL L) (ds := valsL L) (ks := [nD x.1, nD x.2.1]) (d := nD h) rfl plainL_m rfl rfl rfl (by simp) (by simp; omega) ?_
  rw [show putKs (keysL L) (.tup [nD x.1, nD x.2.1]) = keysL L' from e1, show putDs (keysL L) (valsL L) (.tup [nD x.1, nD x.2.1]) (nD h) = valsL L' from e2]
  refine q L' (.v (nD h)) (fun p hp => ?_) e4
  rcases e3 p hp with z | rfl
  · exact hL p z
  · exact here
def FI (ns : List Int) (g c : Int) (m : Nat) (ts : List (List Nat)) (st : List Nat) (age : Int) (poss : List Nat) (rows : List (List (Nat × Nat))) (log : List Nat) (cs : List (Nat × Nat × Nat)) (y8 y9 y11 y16 : EV) (rest : List D) (e : List EV) : Prop := ∃ (l : List (Nat × Nat × Nat)) (L : List ((Nat × Nat) × Nat)) (y10 y13 y14 y15 : EV), rest = l.map cD ∧ (∀ x ∈ l, x ∈ cs) ∧ LOk rows L ∧ L.length + l.length ≤ 200 ∧ e = FE ns g c m ts st age poss rows log cs L y8 y9 y10 y11 y13 y14 y15 y16
theorem cB5 (w : Wd m ts st log poss rows cs) (hc : cs.length ≤ 180) (q : ∀ e, P.nx e) : (B5 (ME ns g c m ts st age poss rows log cs y8 y9 y10 y11 y12 y13 y14 y15 y16)).wp ⟨fun e1 => (B6 e1).wp P, P.rt, P.bk, P.ct, P.ex⟩ := by
  unfold B5
  simp [-List.map_map]
  unfold B6
  simp [-List.map_map]
  refine forM_wp (FI ns g c m ts st age poss rows log cs y8 y9 y11 y16) (fun d rest e h => ?_) (fun e h => q e) ⟨cs, [], y10, y13, y14, y15, rfl, (fun _ h => h), (fun _ h => by cases h), by simp; omega, rfl⟩
  obtain ⟨l, L, y10, y13, y14, y15, h1, h2, h3, h4, rfl⟩ := h
  cases l with
  | nil => cases h1
  | cons x l =>
    cases h1
    rw [List.length_cons] at h4
    refine ⟨_, rfl, ?_⟩
    exact cU w (h2 x (List.mem_cons_self ..)) h3 (by omega) fun L' y15 h5 h6 => ⟨l, L', _, _, _, y15, rfl, fun y hy => h2 y (List.mem_cons_of_mem _ hy), h5, by omega, rfl⟩
end
theorem law_sp {ns : List Int} (hn : ns.length < 1000) : (S_law [.v (.scr ns)]).wp (fun r os => r = .v (.bl true)) fun _ _ => False := by
  unfold S_law
  rw [B_eq, wp_fnS]
  unfold B
  refine sqx ?_
  unfold B0
  simp [-List.map_map, takeA]
  refine (box2 ns 0 (by decide) hn).mono (fun r os h => ?_) fun _ _ h => h.elim
  obtain ⟨g, c, rfl, rfl⟩ := h
  simp [-List.map_map, putA]
  unfold B1
  simp [-List.map_map, takeA, isOwn]
  refine (tables_sp g c).mono (fun r os h => ?_) fun _ _ h => h.elim
  obtain ⟨m, ts, g, c, t, rfl, rfl⟩ := h
  have e0 : atI (ts.map rowD) 0 = some (rowD (rowOf ts 0)) := row_at t (d := 0) t.t1
  have e1 : (rowOf ts 0).length = m := (row_ok t (d := 0) t.t1).1
  simp [-List.map_map, putA]
  unfold B2
  simp [-List.map_map, takeA, isOwn, e0, e1]
  refine (starts_sp g c t.m1 t.m5).mono (fun r os h => ?_) fun _ _ h => h.elim
  obtain ⟨st, g, c, hs, rfl, rfl⟩ := h
  simp [-List.map_map, putA, parL, putE]
  unfold B3
  simp [-List.map_map, takeA, isOwn, shA]
  refine mach_sp t ?_
  simp [-List.map_map, putA, kb_0_gD, permL, takeA, isOwn, shA]
  refine ⟨_, _, ⟨rfl, rfl⟩, ?_⟩
  simp [-List.map_map]
  refine init_sp hs t.m5 ?_
  simp [-List.map_map, putA, parL, putE]
  try refine ⟨_, _, ⟨rfl, rfl⟩, ?_⟩
  try simp [-List.map_map]
  refine cB4 (st := st) (y8 := .un) (y9 := .un) (y10 := .un) (y11 := .un) hn ⟨t, hs, NI.init hs, (fun _ h => by cases h), (fun _ h => by cases h)⟩ fun g c age log poss rows cs y8 y9 y10 y11 w hl hc => ?_
  refine cB5 w hc fun e => ?_
  unfold B7
  simp
theorem says : DL.Says S_law 63 := fun ns hn _ => by
  obtain ⟨r, os, h1, h2⟩ := wp_out (law_sp (ns := ns) (by omega))
  subst h2
  exact ⟨os, h1⟩
end K32

namespace K32
open PySem PySem.Spec PyProof.Rows L2 DL
def nm0 : List PySem.Str := ["AgeError", "BadMachine", "BadLog", "BadCopy", "Refused", "NoState", "NoDeed", "MOST_DEEDS", "MOST_STATES", "MOST_LOG", "is_integer", "is_number", "is_below", "is_sequence", "is_ascending", "is_table", "check_tables", "Machine", "need_state", "need_deed", "check_log", "check_starts", "behind", "moved_paths", "with_return", "LogNote", "_law_box", "_law_take", "_law_pick", "_law_tables"]
def nm1 : List PySem.Str := ["_law_led", "_law_starts", "_law_copies_right"]
def nms : List PySem.Str := nm0 ++ (nm1)
abbrev R : PySem.W.OpenRow := PySem.W.OpenLaw.row PySem.Challenge.rw_agedcopy_k32_whole_a_store_with_a_note_a
abbrev hk : PySem.W.Hook := hookZ cfg 7
def ob (s : PySem.W.SharedT) : AlZ := obsZ cfg 7 (HandSHeadRun.getT s)
theorem ob_eq (s : PySem.W.SharedT) : ob s = hk.obs s.abs := obsZ_eq (HandSHeadRun.getT_eq s)
theorem run (w : World) : HandSHeadRun.RunEq R (PySem.W.view R.prog [38]) hk ob 4000 nms w := by
  intro os
  kernel_rfl
theorem facts {w : World} {K : PySem.W.Frag} {h : Heap} {mg : Str → Option Value} {f : Addr} (KX : K.In h) (G : h.Ns mainGlobals mg) (hfa : mg ("law" : Str) = some (.ref f)) (z : SaysZ cfg h K) (hs : Says S_law 63) : LawAtG PySem.Challenge.rw_agedcopy_k32_whole_a_store_with_a_note_a w K 8 63 "_law_script" mg f h := by
  have e := hfa.symm.trans (z.glo KX G (List.mem_of_getElem? (i := 25) rfl))
  cases e
  have fd0 : ∃ fd, FunD K "law" "law" (defArgs s_law) (defBody s_law) (defScope s_law) [] [] (He.fAd K ("law", none)) fd := z.d.defs (d := dd_law) (List.mem_of_getElem? (i := 26) rfl)
  obtain ⟨fd, F⟩ := fd0
  have b := FunD.bindsA (ps := ["_law_script"]) F fun _ _ _ _ _ _ us hl => match us, hl with | [_], _ => rfl
  have hb : ∀ (s : Shared) (u : Value), BindsTo s fd ⟨[u], []⟩ [("_law_script", u)] := fun s u => b s [u] rfl
  rw [← fdOf_eq F] at hb
  exact z.law (S := S_law) KX hb hs fun base hK hN ht => ok_law (base := base) ⟨⟨h, KX, G, z⟩, ht⟩
end K32
open PySem PySem.W PySem.Calls PyProof.Rows
theorem K32.holds_of (hs : DL.Says K32.S_law 63) : PySem.Challenge.rw_agedcopy_k32_whole_a_store_with_a_note_a.Holds := by
  w_on; o_law
  refine HandSHeadRun.head_any (r := OpenLaw.row PySem.Challenge.rw_agedcopy_k32_whole_a_store_with_a_note_a) (q := view (OpenLaw.row PySem.Challenge.rw_agedcopy_k32_whole_a_store_with_a_note_a).prog [38]) (H := K32.hk) (ob := K32.ob) (M := 4000) (loose := K32.nms) (d := HandSHeadRun.topDef (OpenLaw.row PySem.Challenge.rw_agedcopy_k32_whole_a_store_with_a_note_a).prog 38) (kwd := []) K32.ob_eq
    (by kernel_rfl) (fun s => by kernel_rfl) K32.run (by kernel_rfl) (by kernel_rfl) (by kernel_rfl) (by rfl) (by first | assumption | decide +kernel) (by decide +kernel) ⟨rfl, rfl, rfl, rfl, rfl, by decide +kernel⟩ ?hw ?hc
  case hw => w_witness2
  case hc =>
    refine @DL.walk_ofG (K32.cfg).lt PySem.Challenge.rw_agedcopy_k32_whole_a_store_with_a_note_a 63 8 _ _ _ _ _ "_law_script" rfl (by decide) (by kernel_rfl) ⟨rfl, by decide, by decide⟩ ?F
    intro w mg fa h Y G hmg0
    obtain ⟨K, KX, z⟩ := Y
    have hmg : mg ("law" : PySem.Str) = some (.ref fa) := by
      have e : (HandSHeadRun.topDef (OpenLaw.row PySem.Challenge.rw_agedcopy_k32_whole_a_store_with_a_note_a).prog 38).name = ("law" : PySem.Str) := by kernel_rfl
      rw [← e]
      exact hmg0
    exact ⟨K, KX, K32.facts KX G hmg z hs⟩

theorem PySem.Challenge.cw_agedcopy_k32_whole_a_store_with_a_note_a_holds : PySem.Challenge.rw_agedcopy_k32_whole_a_store_with_a_note_a.Holds := by
  exact K32.holds_of K32.says
