import PyProof.Rows.All
import Wide.All
import OpenK.AllK
import Wide.FinOn
import HandS.ForMost
import HandS.Deep
import HandS.Wide
import KE.DataEq
import HandS.TupAny
import HandS.IsInst
import KE.SortData
import KE.DataMinMax
import HandS.Conv
import HandS.Rev
import PyProof.ReprRoads
import HandS.Style
import HandS.SetFor
import HandS.Strs
import HandS.TupSets
import HandS.SortKw
import PyProof.ReprLen
import PySem.Challenge.RW_foldwright_k71_worst_cases_by_all_sets
set_option Elab.async false
set_option linter.all false
set_option maxRecDepth 100000
/-! VL1: data read as values: what is frozen (G), what is owned (trees S), the state's relation ER. -/
namespace VL
open PySem PySem.Spec PyProof.Rows L2
/-- data as values; a dict tells whether its keys are tuples -/
inductive D where
  | non | bl (b : Bool) | int (i : Int) | str (x : Str) | lst (xs : List D) | tup (xs : List D) | dic (t : Bool) (kvs : List (D × D))
def kD : Key → D
  | .inl i => .int i
  | .inr x => .str x
mutual
inductive Rp (K : PySem.W.Frag) (H : Hp) : V → D → Prop
  | non : Rp K H .non .non
  | bl (b : Bool) : Rp K H (.bl b) (.bl b)
  | int (i : Int) : Rp K H (.int i) (.int i)
  | str (x : Str) : Rp K H (.str x) (.str x)
  | lst {a : Addr} {xs : List V} {ds : List D} : H a = some (.lst xs) → RpL K H xs ds → Rp K H (.ref a) (.lst ds)
  | tup {a : Addr} {xs : List V} {ds : List D} : H a = some (.tup xs) → RpL K H xs ds → Rp K H (.ref a) (.tup ds)
  | dK {a : Addr} {kvs : List (Key × V)} {ds : List (D × D)} : Rd H a (.dK kvs) → RpK K H kvs ds → Rp K H (.ref a) (.dic false ds)
  | dT {a : Addr} {kvs : List (List Key × V)} {ds : List (D × D)} : Rd H a (.dT kvs) → RpT K H kvs ds → Rp K H (.ref a) (.dic true ds)
inductive RpL (K : PySem.W.Frag) (H : Hp) : List V → List D → Prop
  | nil : RpL K H [] []
  | cons {v : V} {vs : List V} {d : D} {ds : List D} : Rp K H v d → RpL K H vs ds → RpL K H (v :: vs) (d :: ds)
inductive RpK (K : PySem.W.Frag) (H : Hp) : List (Key × V) → List (D × D) → Prop
  | nil : RpK K H [] []
  | cons {k : Key} {v : V} {vs : List (Key × V)} {d : D} {ds : List (D × D)} : Rp K H v d → RpK K H vs ds → RpK K H ((k, v) :: vs) ((kD k, d) :: ds)
inductive RpT (K : PySem.W.Frag) (H : Hp) : List (List Key × V) → List (D × D) → Prop
  | nil : RpT K H [] []
  | cons {k : List Key} {v : V} {vs : List (List Key × V)} {d : D} {ds : List (D × D)} : Rp K H v d → RpT K H vs ds → RpT K H ((k, v) :: vs) ((.tup (k.map kD), d) :: ds)
end
theorem sqT_mono {K : PySem.W.Frag} {H H' : Hp} {a : Addr} {xs : List V} (e : Same H H') (h : SqT K H a xs) : SqT K H' a xs := by
  rcases h with (h | ⟨o, h⟩) | h
  · exact .inl (.inl (e _ _ h))
  · exact .inl (.inr ⟨o, e _ _ h⟩)
  · exact .inr h
theorem rd_mono {H H' : Hp} {a : Addr} {u : HO} (e : Same H H') (h : Rd H a u) : Rd H' a u := by
  rcases h with h | ⟨o, h⟩
  · exact .inl (e _ _ h)
  · exact .inr ⟨o, e _ _ h⟩
section
variable {K : PySem.W.Frag} {H H' : Hp}
mutual
theorem Rp.mono (e : Same H H') : ∀ (d : D) (v : V), Rp K H v d → Rp K H' v d
  | .non, _, h => by cases h; exact .non
  | .bl b, _, h => by cases h; exact .bl b
  | .int i, _, h => by cases h; exact .int i
  | .str x, _, h => by cases h; exact .str x
  | .lst ds, _, h => by
    cases h with
    | lst h1 h2 => exact .lst (e _ _ h1) (RpL.mono e ds _ h2)
  | .tup ds, _, h => by
    cases h with
    | tup h1 h2 => exact .tup (e _ _ h1) (RpL.mono e ds _ h2)
  | .dic false ds, _, h => by
    cases h with
    | dK h1 h2 => exact .dK (rd_mono e h1) (RpK.mono e ds _ h2)
  | .dic true ds, _, h => by
    cases h with
    | dT h1 h2 => exact .dT (rd_mono e h1) (RpT.mono e ds _ h2)
theorem RpL.mono (e : Same H H') : ∀ (ds : List D) (vs : List V), RpL K H vs ds → RpL K H' vs ds
  | [], _, h => by cases h; exact .nil
  | d :: ds, _, h => by
    cases h with
    | cons h1 h2 => exact .cons (Rp.mono e d _ h1) (RpL.mono e ds _ h2)
theorem RpK.mono (e : Same H H') : ∀ (ds : List (D × D)) (vs : List (Key × V)), RpK K H vs ds → RpK K H' vs ds
  | [], _, h => by cases h; exact .nil
  | (_, d) :: ds, _, h => by
    cases h with
    | cons h1 h2 => exact .cons (Rp.mono e d _ h1) (RpK.mono e ds _ h2)
theorem RpT.mono (e : Same H H') : ∀ (ds : List (D × D)) (vs : List (List Key × V)), RpT K H vs ds → RpT K H' vs ds
  | [], _, h => by cases h; exact .nil
  | (_, d) :: ds, _, h => by
    cases h with
    | cons h1 h2 => exact .cons (Rp.mono e d _ h1) (RpT.mono e ds _ h2)
end
theorem Rp.up {v : V} {d : D} (h : Rp K H v d) (e : Same H H') : Rp K H' v d := Rp.mono e d v h
theorem RpL.up {v : List V} {d : List D} (h : RpL K H v d) (e : Same H H') : RpL K H' v d := RpL.mono e d v h
theorem RpL.length : ∀ {vs : List V} {ds : List D}, RpL K H vs ds → vs.length = ds.length
  | _, _, .nil => rfl
  | _, _, .cons _ t => by rw [List.length_cons, List.length_cons, RpL.length t]
theorem RpL.get : ∀ {vs : List V} {ds : List D} {i : Nat} {d : D}, RpL K H vs ds → ds[i]? = some d → ∃ v, vs[i]? = some v ∧ Rp K H v d
  | _, _, _, _, .nil, e => by simp at e
  | _, _, 0, _, .cons r _, e => by simp at e; subst e; exact ⟨_, rfl, r⟩
  | _, _, i + 1, _, .cons _ t, e => by
    obtain ⟨u, h1, h2⟩ := RpL.get (i := i) t (by simpa using e)
    exact ⟨u, by simpa using h1, h2⟩
theorem RpL.append : ∀ {xs ys : List V} {ds es : List D}, RpL K H xs ds → RpL K H ys es → RpL K H (xs ++ ys) (ds ++ es)
  | _, _, _, _, .nil, s => s
  | _, _, _, _, .cons r t, s => .cons r (RpL.append t s)
theorem RpL.take : ∀ {xs : List V} {ds : List D} (n : Nat), RpL K H xs ds → RpL K H (xs.take n) (ds.take n)
  | _, _, 0, _ => .nil
  | _, _, _ + 1, .nil => .nil
  | _, _, n + 1, .cons r t => .cons r (RpL.take n t)
theorem RpL.drop : ∀ {xs : List V} {ds : List D} (n : Nat), RpL K H xs ds → RpL K H (xs.drop n) (ds.drop n)
  | _, _, 0, r => r
  | _, _, _ + 1, .nil => .nil
  | _, _, n + 1, .cons _ t => RpL.drop n t
theorem RpL.reverse {xs : List V} {ds : List D} (h : RpL K H xs ds) : RpL K H xs.reverse ds.reverse := by
  induction xs generalizing ds with
  | nil => cases h; exact .nil
  | cons x xs ih =>
    cases h with
    | cons h1 h2 =>
      rw [List.reverse_cons, List.reverse_cons]
      exact RpL.append (ih h2) (.cons h1 .nil)
/-- ints, as they stand -/
theorem RpL.ints : ∀ {vs : List V} {ns : List Int}, RpL K H vs (ns.map D.int) → vs = ns.map V.int
  | _, [], h => by cases h; rfl
  | _, n :: ns, h => by
    cases h with
    | cons h1 h2 =>
      cases h1
      rw [RpL.ints h2]; rfl
theorem RpL.of_ints : ∀ (ns : List Int), RpL K H (ns.map V.int) (ns.map D.int)
  | [] => .nil
  | n :: ns => .cons (.int n) (RpL.of_ints ns)
theorem RpL.bls : ∀ {vs : List V} {ns : List Bool}, RpL K H vs (ns.map D.bl) → vs = ns.map V.bl
  | _, [], h => by cases h; rfl
  | _, n :: ns, h => by
    cases h with
    | cons h1 h2 =>
      cases h1
      rw [RpL.bls h2]; rfl
end
/-! data without dicts: for == and in -/
mutual
def D.py : D → PyData
  | .non => .none
  | .bl b => .bool b
  | .int i => .int i
  | .str x => .str x
  | .lst xs => .list (D.pyL xs)
  | .tup xs => .tuple (D.pyL xs)
  | .dic _ _ => .none
def D.pyL : List D → List PyData
  | [] => []
  | x :: xs => x.py :: D.pyL xs
end
mutual
def D.plain : D → Bool
  | .lst xs => D.plainL xs
  | .tup xs => D.plainL xs
  | .dic _ _ => false
  | _ => true
def D.plainL : List D → Bool
  | [] => true
  | x :: xs => x.plain && D.plainL xs
end
mutual
theorem D.py_plain : ∀ d : D, d.py.plain = true
  | .non => rfl
  | .bl _ => rfl
  | .int _ => rfl
  | .str _ => rfl
  | .lst xs => D.pyL_plain xs
  | .tup xs => D.pyL_plain xs
  | .dic _ _ => rfl
theorem D.pyL_plain : ∀ xs : List D, PyData.plainAll (D.pyL xs) = true
  | [] => rfl
  | x :: xs => by
    show (x.py.plain && PyData.plainAll (D.pyL xs)) = true
    rw [D.py_plain x, D.pyL_plain xs]; rfl
end
section
variable {K : PySem.W.Frag} {H : Hp}
mutual
theorem Rp.dp : ∀ (d : D) (v : V), d.plain = true → Rp K H v d → Dp K H v d.py
  | .non, _, _, h => by cases h; exact .non
  | .bl b, _, _, h => by cases h; exact .bl b
  | .int i, _, _, h => by cases h; exact .int i
  | .str x, _, _, h => by cases h; exact .str x
  | .lst ds, _, p, h => by
    cases h with
    | lst h1 h2 => exact .lst (SqL.of h1) (RpL.dp ds _ p h2)
  | .tup ds, _, p, h => by
    cases h with
    | tup h1 h2 => exact .tup (SqT.of h1) (RpL.dp ds _ p h2)
  | .dic _ ds, _, p, _ => by cases (show false = true from p)
theorem RpL.dp : ∀ (ds : List D) (vs : List V), D.plainL ds = true → RpL K H vs ds → DpAll K H vs (D.pyL ds)
  | [], _, _, h => by cases h; exact .nil
  | d :: ds, _, p, h => by
    have q : d.plain = true ∧ D.plainL ds = true := by simpa [D.plainL] using p
    cases h with
    | cons h1 h2 => exact .cons (Rp.dp d _ q.1 h1) (RpL.dp ds _ q.2 h2)
end
end

/-- what a slot holds: frozen data; a list, a dict, a tuple, an instance of the def's own, with what is in it -/
inductive S where
  | fz (d : D)
  | ol (xs : List S)
  | od (t : Bool) (kvs : List (D × S))
  | ot (xs : List S)
  | ob (C : Addr) (fs : List (Str × S))
  | at (a : Addr) (s : S)
mutual
def S.er : S → D
  | .fz d => d
  | .ol xs => .lst (S.erL xs)
  | .od t kvs => .dic t (S.erK kvs)
  | .ot xs => .tup (S.erL xs)
  | .ob _ _ => .non
  | .at _ s => s.er
def S.erL : List S → List D
  | [] => []
  | x :: xs => x.er :: S.erL xs
def S.erK : List (D × S) → List (D × D)
  | [] => []
  | (k, x) :: xs => (k, x.er) :: S.erK xs
end
mutual
def S.noOb : S → Bool
  | .fz _ => true
  | .ol xs => S.noObL xs
  | .od _ kvs => S.noObK kvs
  | .ot xs => S.noObL xs
  | .ob _ _ => false
  | .at _ _ => false
def S.noObL : List S → Bool
  | [] => true
  | x :: xs => x.noOb && S.noObL xs
def S.noObK : List (D × S) → Bool
  | [] => true
  | (_, x) :: xs => x.noOb && S.noObK xs
end
mutual
inductive SlR (K : PySem.W.Frag) (G H : Hp) : V → S → List Addr → Prop
  | fz {v : V} {d : D} : Rp K G v d → SlR K G H v (.fz d) []
  | ol {p : Addr} {vs : List V} {xs : List S} {F : List Addr} : H p = some (.lst vs) → SlRs K G H vs xs F → SlR K G H (.ref p) (.ol xs) (p :: F)
  | ot {p : Addr} {vs : List V} {xs : List S} {F : List Addr} : H p = some (.tup vs) → SlRs K G H vs xs F → SlR K G H (.ref p) (.ot xs) (p :: F)
  | odK {p : Addr} {vs : List (Key × V)} {xs : List (D × S)} {F : List Addr} : H p = some (.dK vs) → SlRK K G H vs xs F → SlR K G H (.ref p) (.od false xs) (p :: F)
  | odT {p : Addr} {vs : List (List Key × V)} {xs : List (D × S)} {F : List Addr} : H p = some (.dT vs) → SlRT K G H vs xs F → SlR K G H (.ref p) (.od true xs) (p :: F)
  | ob {p C dx : Addr} {vs : List (Str × V)} {xs : List (Str × S)} {F : List Addr} : H p = some (.ins C dx vs) → SlRF K G H vs xs F → SlR K G H (.ref p) (.ob C xs) (p :: F)
  | at {a : Addr} {s : S} {F : List Addr} : SlR K G H (.ref a) s F → SlR K G H (.ref a) (.at a s) F
inductive SlRs (K : PySem.W.Frag) (G H : Hp) : List V → List S → List Addr → Prop
  | nil : SlRs K G H [] [] []
  | cons {v : V} {x : S} {F : List Addr} {vs : List V} {xs : List S} {F' : List Addr} : SlR K G H v x F → SlRs K G H vs xs F' → SlRs K G H (v :: vs) (x :: xs) (F ++ F')
inductive SlRK (K : PySem.W.Frag) (G H : Hp) : List (Key × V) → List (D × S) → List Addr → Prop
  | nil : SlRK K G H [] [] []
  | cons {k : Key} {v : V} {x : S} {F : List Addr} {vs : List (Key × V)} {xs : List (D × S)} {F' : List Addr} : SlR K G H v x F → SlRK K G H vs xs F' → SlRK K G H ((k, v) :: vs) ((kD k, x) :: xs) (F ++ F')
inductive SlRT (K : PySem.W.Frag) (G H : Hp) : List (List Key × V) → List (D × S) → List Addr → Prop
  | nil : SlRT K G H [] [] []
  | cons {k : List Key} {v : V} {x : S} {F : List Addr} {vs : List (List Key × V)} {xs : List (D × S)} {F' : List Addr} : SlR K G H v x F → SlRT K G H vs xs F' → SlRT K G H ((k, v) :: vs) ((.tup (k.map kD), x) :: xs) (F ++ F')
inductive SlRF (K : PySem.W.Frag) (G H : Hp) : List (Str × V) → List (Str × S) → List Addr → Prop
  | nil : SlRF K G H [] [] []
  | cons {k : Str} {v : V} {x : S} {F : List Addr} {vs : List (Str × V)} {xs : List (Str × S)} {F' : List Addr} : SlR K G H v x F → SlRF K G H vs xs F' → SlRF K G H ((k, v) :: vs) ((k, x) :: xs) (F ++ F')
end
section
variable {K : PySem.W.Frag} {G H G' H' : Hp}
mutual
theorem SlR.mono (e : Same G G') : ∀ (s : S) (v : V) (F : List Addr), (∀ a ∈ F, H' a = H a) → SlR K G H v s F → SlR K G' H' v s F
  | .fz d, _, _, _, h => by
    cases h with
    | fz r => exact .fz (r.up e)
  | .ol xs, _, _, k, h => by
    cases h with
    | ol h1 h2 => exact .ol ((k _ List.mem_cons_self).trans h1) (SlRs.mono e xs _ _ (fun a m => k a (List.mem_cons_of_mem _ m)) h2)
  | .ot xs, _, _, k, h => by
    cases h with
    | ot h1 h2 => exact .ot ((k _ List.mem_cons_self).trans h1) (SlRs.mono e xs _ _ (fun a m => k a (List.mem_cons_of_mem _ m)) h2)
  | .od false xs, _, _, k, h => by
    cases h with
    | odK h1 h2 => exact .odK ((k _ List.mem_cons_self).trans h1) (SlRK.mono e xs _ _ (fun a m => k a (List.mem_cons_of_mem _ m)) h2)
  | .od true xs, _, _, k, h => by
    cases h with
    | odT h1 h2 => exact .odT ((k _ List.mem_cons_self).trans h1) (SlRT.mono e xs _ _ (fun a m => k a (List.mem_cons_of_mem _ m)) h2)
  | .ob C xs, _, _, k, h => by
    cases h with
    | ob h1 h2 => exact .ob ((k _ List.mem_cons_self).trans h1) (SlRF.mono e xs _ _ (fun a m => k a (List.mem_cons_of_mem _ m)) h2)
  | .at a s, _, _, k, h => by
    cases h with
    | «at» h => exact .at (SlR.mono e s _ _ k h)
theorem SlRs.mono (e : Same G G') : ∀ (s : List S) (v : List V) (F : List Addr), (∀ a ∈ F, H' a = H a) → SlRs K G H v s F → SlRs K G' H' v s F
  | [], _, _, _, h => by cases h; exact .nil
  | x :: xs, _, _, k, h => by
    cases h with
    | cons h1 h2 => exact .cons (SlR.mono e x _ _ (fun a m => k a (List.mem_append_left _ m)) h1) (SlRs.mono e xs _ _ (fun a m => k a (List.mem_append_right _ m)) h2)
theorem SlRK.mono (e : Same G G') : ∀ (s : List (D × S)) (v : List (Key × V)) (F : List Addr), (∀ a ∈ F, H' a = H a) → SlRK K G H v s F → SlRK K G' H' v s F
  | [], _, _, _, h => by cases h; exact .nil
  | (_, x) :: xs, _, _, k, h => by
    cases h with
    | cons h1 h2 => exact .cons (SlR.mono e x _ _ (fun a m => k a (List.mem_append_left _ m)) h1) (SlRK.mono e xs _ _ (fun a m => k a (List.mem_append_right _ m)) h2)
theorem SlRT.mono (e : Same G G') : ∀ (s : List (D × S)) (v : List (List Key × V)) (F : List Addr), (∀ a ∈ F, H' a = H a) → SlRT K G H v s F → SlRT K G' H' v s F
  | [], _, _, _, h => by cases h; exact .nil
  | (_, x) :: xs, _, _, k, h => by
    cases h with
    | cons h1 h2 => exact .cons (SlR.mono e x _ _ (fun a m => k a (List.mem_append_left _ m)) h1) (SlRT.mono e xs _ _ (fun a m => k a (List.mem_append_right _ m)) h2)
theorem SlRF.mono (e : Same G G') : ∀ (s : List (Str × S)) (v : List (Str × V)) (F : List Addr), (∀ a ∈ F, H' a = H a) → SlRF K G H v s F → SlRF K G' H' v s F
  | [], _, _, _, h => by cases h; exact .nil
  | (_, x) :: xs, _, _, k, h => by
    cases h with
    | cons h1 h2 => exact .cons (SlR.mono e x _ _ (fun a m => k a (List.mem_append_left _ m)) h1) (SlRF.mono e xs _ _ (fun a m => k a (List.mem_append_right _ m)) h2)
end
mutual
theorem SlR.dom : ∀ (s : S) (v : V) (F : List Addr), SlR K G H v s F → ∀ a ∈ F, ∃ o, H a = some o
  | .fz d, _, _, h, a, m => by cases h; cases m
  | .ol xs, _, _, h, a, m => by
    cases h with
    | ol h1 h2 =>
      rcases List.mem_cons.mp m with rfl | m
      · exact ⟨_, h1⟩
      · exact SlRs.dom xs _ _ h2 a m
  | .ot xs, _, _, h, a, m => by
    cases h with
    | ot h1 h2 =>
      rcases List.mem_cons.mp m with rfl | m
      · exact ⟨_, h1⟩
      · exact SlRs.dom xs _ _ h2 a m
  | .od false xs, _, _, h, a, m => by
    cases h with
    | odK h1 h2 =>
      rcases List.mem_cons.mp m with rfl | m
      · exact ⟨_, h1⟩
      · exact SlRK.dom xs _ _ h2 a m
  | .od true xs, _, _, h, a, m => by
    cases h with
    | odT h1 h2 =>
      rcases List.mem_cons.mp m with rfl | m
      · exact ⟨_, h1⟩
      · exact SlRT.dom xs _ _ h2 a m
  | .ob C xs, _, _, h, a, m => by
    cases h with
    | ob h1 h2 =>
      rcases List.mem_cons.mp m with rfl | m
      · exact ⟨_, h1⟩
      · exact SlRF.dom xs _ _ h2 a m
  | .at b s, _, _, h, a, m => by
    cases h with
    | «at» h => exact SlR.dom s _ _ h a m
theorem SlRs.dom : ∀ (s : List S) (v : List V) (F : List Addr), SlRs K G H v s F → ∀ a ∈ F, ∃ o, H a = some o
  | [], _, _, h, a, m => by cases h; cases m
  | x :: xs, _, _, h, a, m => by
    cases h with
    | cons h1 h2 => exact (List.mem_append.mp m).elim (SlR.dom x _ _ h1 a) (SlRs.dom xs _ _ h2 a)
theorem SlRK.dom : ∀ (s : List (D × S)) (v : List (Key × V)) (F : List Addr), SlRK K G H v s F → ∀ a ∈ F, ∃ o, H a = some o
  | [], _, _, h, a, m => by cases h; cases m
  | (_, x) :: xs, _, _, h, a, m => by
    cases h with
    | cons h1 h2 => exact (List.mem_append.mp m).elim (SlR.dom x _ _ h1 a) (SlRK.dom xs _ _ h2 a)
theorem SlRT.dom : ∀ (s : List (D × S)) (v : List (List Key × V)) (F : List Addr), SlRT K G H v s F → ∀ a ∈ F, ∃ o, H a = some o
  | [], _, _, h, a, m => by cases h; cases m
  | (_, x) :: xs, _, _, h, a, m => by
    cases h with
    | cons h1 h2 => exact (List.mem_append.mp m).elim (SlR.dom x _ _ h1 a) (SlRT.dom xs _ _ h2 a)
theorem SlRF.dom : ∀ (s : List (Str × S)) (v : List (Str × V)) (F : List Addr), SlRF K G H v s F → ∀ a ∈ F, ∃ o, H a = some o
  | [], _, _, h, a, m => by cases h; cases m
  | (_, x) :: xs, _, _, h, a, m => by
    cases h with
    | cons h1 h2 => exact (List.mem_append.mp m).elim (SlR.dom x _ _ h1 a) (SlRF.dom xs _ _ h2 a)
end
mutual
/-- what is owned may be read, too -/
theorem SlR.view (e : Same G H) : ∀ (s : S) (v : V) (F : List Addr), s.noOb = true → SlR K G H v s F → Rp K H v s.er
  | .fz d, _, _, _, h => by
    cases h with
    | fz r => exact r.up e
  | .ol xs, _, _, n, h => by
    cases h with
    | ol h1 h2 => exact .lst h1 (SlRs.view e xs _ _ n h2)
  | .ot xs, _, _, n, h => by
    cases h with
    | ot h1 h2 => exact .tup h1 (SlRs.view e xs _ _ n h2)
  | .od false xs, _, _, n, h => by
    cases h with
    | odK h1 h2 => exact .dK (.inl h1) (SlRK.view e xs _ _ n h2)
  | .od true xs, _, _, n, h => by
    cases h with
    | odT h1 h2 => exact .dT (.inl h1) (SlRT.view e xs _ _ n h2)
  | .ob C xs, _, _, n, h => by cases (show false = true from n)
  | .at a s, _, _, n, h => by cases (show false = true from n)
theorem SlRs.view (e : Same G H) : ∀ (s : List S) (v : List V) (F : List Addr), S.noObL s = true → SlRs K G H v s F → RpL K H v (S.erL s)
  | [], _, _, _, h => by cases h; exact .nil
  | x :: xs, _, _, n, h => by
    have q : x.noOb = true ∧ S.noObL xs = true := by simpa [S.noObL] using n
    cases h with
    | cons h1 h2 => exact .cons (SlR.view e x _ _ q.1 h1) (SlRs.view e xs _ _ q.2 h2)
theorem SlRK.view (e : Same G H) : ∀ (s : List (D × S)) (v : List (Key × V)) (F : List Addr), S.noObK s = true → SlRK K G H v s F → RpK K H v (S.erK s)
  | [], _, _, _, h => by cases h; exact .nil
  | (_, x) :: xs, _, _, n, h => by
    have q : x.noOb = true ∧ S.noObK xs = true := by simpa [S.noObK] using n
    cases h with
    | cons h1 h2 => exact .cons (SlR.view e x _ _ q.1 h1) (SlRK.view e xs _ _ q.2 h2)
theorem SlRT.view (e : Same G H) : ∀ (s : List (D × S)) (v : List (List Key × V)) (F : List Addr), S.noObK s = true → SlRT K G H v s F → RpT K H v (S.erK s)
  | [], _, _, _, h => by cases h; exact .nil
  | (_, x) :: xs, _, _, n, h => by
    have q : x.noOb = true ∧ S.noObK xs = true := by simpa [S.noObK] using n
    cases h with
    | cons h1 h2 => exact .cons (SlR.view e x _ _ q.1 h1) (SlRT.view e xs _ _ q.2 h2)
end
end

/-! ### the state -/
abbrev Env := List (Option S)
structure ER (K : PySem.W.Frag) (G H : Hp) (st : L2.St) (env : VL.Env) (F : Nat → List Addr) : Prop where
  sub : Same G H
  len : env.length = st.length
  slot : ∀ i s, env[i]? = some (some s) → ∃ v, st[i]? = some (some v) ∧ SlR K G H v s (F i)
  out : ∀ i, (∀ s, env[i]? ≠ some (some s)) → F i = []
  off : ∀ i a, a ∈ F i → G a = none
  nd : ∀ i, (F i).Nodup
  dj : ∀ i j a, a ∈ F i → a ∈ F j → i = j
/-- what a pure evaluation does: new things are laid, some of them frozen -/
structure Ex (G H G' H' : Hp) : Prop where
  hh : Same H H'
  gg : Same G G'
  gh : Same G' H'
  nw : ∀ b, G' b ≠ none → G b ≠ none ∨ H b = none
theorem Ex.refl {G H : Hp} (h : Same G H) : Ex G H G H := ⟨Same.refl _, Same.refl _, h, fun b e => .inl e⟩
theorem Ex.trans {G H G1 H1 G2 H2 : Hp} (a : Ex G H G1 H1) (b : Ex G1 H1 G2 H2) : Ex G H G2 H2 :=
  ⟨a.hh.trans b.hh, a.gg.trans b.gg, b.gh, fun c e => (b.nw c e).elim (a.nw c) fun z => .inr (a.hh.free z)⟩
theorem same_upd {H : Hp} {p : Addr} {o : HO} (h : H p = none) : Same H (upd H p o) := fun b x e => by
  rw [upd_ne (ne_of_none e h)]
  exact e
/-- a frozen thing is laid -/
theorem Ex.frz {G H : Hp} {p : Addr} {o : HO} (s : Same G H) (n : H p = none) : Ex G H (upd G p o) (upd H p o) := by
  refine ⟨same_upd n, same_upd (s.free n), fun b u e => ?_, fun b e => ?_⟩
  · by_cases z : b = p
    · subst z; rw [upd_same] at e ⊢; exact e
    · rw [upd_ne z] at e ⊢; exact s _ _ e
  · by_cases z : b = p
    · subst z; exact .inr n
    · rw [upd_ne z] at e; exact .inl e
/-- an owned thing is laid -/
theorem Ex.own {G H : Hp} {p : Addr} {o : HO} (s : Same G H) (n : H p = none) : Ex G H G (upd H p o) :=
  ⟨same_upd n, Same.refl _, s.trans (same_upd n), fun b e => .inl e⟩
section
variable {K : PySem.W.Frag} {G H G' H' : Hp} {st : L2.St} {env : VL.Env} {F : Nat → List Addr}
theorem ER.dom (r : ER K G H st env F) {i : Nat} {a : Addr} (m : a ∈ F i) : ∃ o, H a = some o := by
  by_cases q : ∃ s, env[i]? = some (some s)
  · obtain ⟨s, e⟩ := q
    obtain ⟨v, _, h⟩ := r.slot i s e
    exact SlR.dom s v _ h a m
  · have := r.out i fun s e => q ⟨s, e⟩
    rw [this] at m; cases m
theorem ER.ext (r : ER K G H st env F) (x : Ex G H G' H') : ER K G' H' st env F := by
  refine ⟨x.gh, r.len, fun i s e => ?_, r.out, fun i a m => ?_, r.nd, r.dj⟩
  · obtain ⟨v, h1, h2⟩ := r.slot i s e
    refine ⟨v, h1, SlR.mono x.gg s v _ (fun a m => ?_) h2⟩
    obtain ⟨o, h⟩ := r.dom m
    rw [h]; exact x.hh _ _ h
  · cases z : G' a with
    | none => rfl
    | some o =>
      obtain ⟨u, h⟩ := r.dom m
      rcases x.nw a (by rw [z]; exact fun q => nomatch q) with q | q
      · exact absurd (r.off i a m) q
      · rw [h] at q; cases q
/-- a value read off a slot -/
theorem ER.fz (r : ER K G H st env F) {i : Nat} {d : D} (e : env[i]? = some (some (.fz d))) : ∃ v, st[i]? = some (some v) ∧ Rp K G v d := by
  obtain ⟨v, h1, h2⟩ := r.slot i _ e
  generalize F i = Fi at h2
  cases h2 with
  | fz q => exact ⟨v, h1, q⟩
theorem ER.view (r : ER K G H st env F) {i : Nat} {s : S} (e : env[i]? = some (some s)) (n : s.noOb = true) : ∃ v, st[i]? = some (some v) ∧ Rp K H v s.er := by
  obtain ⟨v, h1, h2⟩ := r.slot i _ e
  exact ⟨v, h1, SlR.view r.sub s v _ n h2⟩
end
end VL

set_option Elab.async false
set_option linter.all false
set_option maxRecDepth 100000
/-! VL2: pure expressions as functions of the slots. -/
namespace VL
open PySem PySem.Spec PyProof.Rows L2

/-! ### reading data -/
abbrev ROk (K : PySem.W.Frag) (f : VL.Env → Option D) (t : TE) (view : Bool) : Prop :=
  ∀ (G H : Hp) (st : L2.St) (env : VL.Env) (F : Nat → List Addr) (Q : VK) (d : D), ER K G H st env F → f env = some d →
    (∀ v G' H', Ex G H G' H' → Rp K (if view then H' else G') v d → Q v H') → t st H Q
/-- e is worth f of the slots: frozen -/
structure PV (X : Cx) (e : Expr) (f : VL.Env → Option D) : Prop where
  ex : ∃ t, PE X e t ∧ ∀ (G H : Hp) (st : L2.St) (env : VL.Env) (F : Nat → List Addr) (Q : VK) (d : D), ER X.K G H st env F → f env = some d →
    (∀ v G' H', Ex G H G' H' → Rp X.K G' v d → Q v H') → t st H Q
/-- e reads as f of the slots: as the heap stands -/
structure PW (X : Cx) (e : Expr) (f : VL.Env → Option D) : Prop where
  ex : ∃ t, PE X e t ∧ ∀ (G H : Hp) (st : L2.St) (env : VL.Env) (F : Nat → List Addr) (Q : VK) (d : D), ER X.K G H st env F → f env = some d →
    (∀ v G' H', Ex G H G' H' → Rp X.K H' v d → Q v H') → t st H Q
/-- e is a new list of f of the slots, of nobody else's -/
structure PL (X : Cx) (e : Expr) (f : VL.Env → Option (List D)) : Prop where
  ex : ∃ t, PE X e t ∧ ∀ (G H : Hp) (st : L2.St) (env : VL.Env) (F : Nat → List Addr) (Q : VK) (ds : List D), ER X.K G H st env F → f env = some ds →
    (∀ p vs G' H', Ex G H G' H' → H p = none → G' p = none → H' p = some (.lst vs) → RpL X.K G' vs ds → Q (.ref p) H') → t st H Q
/-- e is a new thing of nobody else's -/
structure PO (X : Cx) (e : Expr) (f : VL.Env → Option S) : Prop where
  ex : ∃ t, PE X e t ∧ ∀ (G H : Hp) (st : L2.St) (env : VL.Env) (F : Nat → List Addr) (Q : VK) (s : S), ER X.K G H st env F → f env = some s →
    (∀ v G' H' Fv, Ex G H G' H' → SlR X.K G' H' v s Fv → Fv.Nodup → (∀ a ∈ Fv, H a = none ∧ G' a = none) → Q v H') → t st H Q
/-- a test -/
structure TB (X : Cx) (e : Expr) (f : VL.Env → Option Bool) : Prop where
  ex : ∃ t, PT X e t ∧ ∀ (G H : Hp) (st : L2.St) (env : VL.Env) (F : Nat → List Addr) (Q : Bool → Hp → Prop) (b : Bool), ER X.K G H st env F → f env = some b →
    (∀ G' H', Ex G H G' H' → Q b H') → t st H Q
/-- the tests of a comprehension -/
structure TBs (X : Cx) (es : List Expr) (f : VL.Env → Option Bool) : Prop where
  ex : ∃ t, PTs X es t ∧ ∀ (G H : Hp) (st : L2.St) (env : VL.Env) (F : Nat → List Addr) (Q : Bool → Hp → Prop) (b : Bool), ER X.K G H st env F → f env = some b →
    (∀ G' H', Ex G H G' H' → Q b H') → t st H Q
/-- arguments: frozen; as they stand -/
structure AV (X : Cx) (es : List Expr) (f : VL.Env → Option (List D)) : Prop where
  ex : ∃ t, PA X es t ∧ ∀ (G H : Hp) (st : L2.St) (env : VL.Env) (F : Nat → List Addr) (Q : List V → Hp → Prop) (ds : List D), ER X.K G H st env F → f env = some ds →
    (∀ vs G' H', Ex G H G' H' → RpL X.K G' vs ds → Q vs H') → t st H Q
structure AW (X : Cx) (es : List Expr) (f : VL.Env → Option (List D)) : Prop where
  ex : ∃ t, PA X es t ∧ ∀ (G H : Hp) (st : L2.St) (env : VL.Env) (F : Nat → List Addr) (Q : List V → Hp → Prop) (ds : List D), ER X.K G H st env F → f env = some ds →
    (∀ vs G' H', Ex G H G' H' → RpL X.K H' vs ds → Q vs H') → t st H Q

def getF (env : VL.Env) (i : Nat) : Option D := match env[i]? with
  | some (some (.fz d)) => some d
  | _ => none
def getS (env : VL.Env) (i : Nat) : Option S := match env[i]? with
  | some (some s) => some s
  | _ => none
def getW (env : VL.Env) (i : Nat) : Option D := match env[i]? with
  | some (some s) => if s.noOb then some s.er else none
  | _ => none
theorem getF_some {env : VL.Env} {i : Nat} {d : D} (h : getF env i = some d) : env[i]? = some (some (.fz d)) := by
  unfold getF at h
  split at h
  · rename_i e; cases h; exact e
  · cases h
theorem getS_some {env : VL.Env} {i : Nat} {s : S} (h : getS env i = some s) : env[i]? = some (some s) := by
  unfold getS at h
  split at h
  · rename_i e; cases h; exact e
  · cases h
theorem getW_some {env : VL.Env} {i : Nat} {d : D} (h : getW env i = some d) : ∃ s, env[i]? = some (some s) ∧ s.noOb = true ∧ s.er = d := by
  unfold getW at h
  split at h
  · rename_i s e
    split at h
    · rename_i n; cases h; exact ⟨s, e, n, rfl⟩
    · cases h
  · cases h

/-- the lengths of what stands -/
def HLen (H : Hp) : Prop := (∀ a xs, H a = some (.lst xs) → xs.length ≤ sizeLine) ∧ (∀ a xs, H a = some (.tup xs) → xs.length ≤ sizeLine)
section
variable {X : Cx}
theorem hlen_of {pins : List (Addr × Obj)} {st : L2.St} {H : Hp} {s : Shared} (I : Inv X pins st H s) : HLen H :=
  ⟨fun a xs e => (I.hok a _ e).1, fun a xs e => (I.hok a _ e).1⟩
theorem pe_hlen {e : Expr} {t : TE} (h : PE X e t) : PE X e (fun st H Q => t st H fun v H' => HLen H' → Q v H') := by
  refine ⟨fun pins s st H Q I hw => ?_⟩
  exact thn (h.run pins s st H _ I hw) fun u s1 ⟨v, H1, I1, r, q⟩ => ⟨v, H1, I1, r, q (hlen_of I1)⟩
theorem pi_hlen {tg e : Expr} {t : TI} (h : PI X tg e t) : PI X tg e (fun st H R => t st H fun J H' => HLen H' → R J H') := by
  refine ⟨fun pins s st H R I hw => ?_⟩
  exact thn (h.run pins s st H _ I hw) fun u s1 h1 => thn h1 fun itv s2 ⟨it, fp, tn, J, H2, e, I2, T, st2, f2, q⟩ => ⟨it, fp, tn, J, H2, e, I2, T, st2, f2, q (hlen_of I2)⟩
theorem pi_or {tg e : Expr} {t t' : TI} (h : PI X tg e t) (h' : PI X tg e t') : PI X tg e (fun st H R => t st H R ∨ t' st H R) :=
  ⟨fun pins s st H R I hw => hw.elim (h.run pins s st H R I) (h'.run pins s st H R I)⟩
theorem pe_or' {e : Expr} {t t' : TE} (h : PE X e t) (h' : PE X e t') : PE X e (fun st H Q => t st H Q ∨ t' st H Q) :=
  ⟨fun pins s st H Q I hw => hw.elim (h.run pins s st H Q I) (h'.run pins s st H Q I)⟩

/-! ### from one to the other -/
theorem PV.w {e : Expr} {f : VL.Env → Option D} (h : PV X e f) : PW X e f := by
  obtain ⟨t, p, o⟩ := h.ex
  exact ⟨t, p, fun G H st env F Q d r e k => o G H st env F Q d r e fun v G' H' x q => k v G' H' x (q.up x.gh)⟩
theorem TB.one {e : Expr} {f : VL.Env → Option Bool} (h : TB X e f) : TBs X [e] f := by
  obtain ⟨t, p, o⟩ := h.ex
  exact ⟨t, pts_one p, o⟩
theorem tbs_nil : TBs X [] (fun _ => some true) := ⟨tYes, pts_nil, fun G H st env F Q b r e k => by cases e; exact k G H (Ex.refl r.sub)⟩
theorem PL.v {e : Expr} {f : VL.Env → Option (List D)} (h : PL X e f) : PV X e (fun env => (f env).map D.lst) := by
  obtain ⟨t, p, o⟩ := h.ex
  refine ⟨t, p, fun G H st env F Q d r e k => ?_⟩
  cases q : f env with
  | none => rw [q] at e; cases e
  | some ds =>
    rw [q] at e; cases e
    refine o G H st env F Q ds r q fun p vs G' H' x hp gp e' l => ?_
    have x2 : Ex G H (upd G' p (.lst vs)) H' := by
      refine ⟨x.hh, x.gg.trans (same_upd gp), fun b u z => ?_, fun b z => ?_⟩
      · by_cases c : b = p
        · subst c; rw [upd_same] at z; cases z; exact e'
        · rw [upd_ne c] at z; exact x.gh _ _ z
      · by_cases c : b = p
        · subst c; exact .inr hp
        · rw [upd_ne c] at z; exact x.nw _ z
    exact k _ _ _ x2 (.lst upd_same (l.up (same_upd gp)))
theorem slRs_fz {K : PySem.W.Frag} {G H : Hp} : ∀ {vs : List V} {ds : List D}, RpL K G vs ds → SlRs K G H vs (ds.map S.fz) []
  | _, _, .nil => .nil
  | _, _, .cons h t => SlRs.cons (F := []) (.fz h) (slRs_fz t)
theorem PL.o {e : Expr} {f : VL.Env → Option (List D)} (h : PL X e f) : PO X e (fun env => (f env).map fun ds => S.ol (ds.map S.fz)) := by
  obtain ⟨t, p, o⟩ := h.ex
  refine ⟨t, p, fun G H st env F Q s r e k => ?_⟩
  cases q : f env with
  | none => rw [q] at e; cases e
  | some ds =>
    rw [q] at e; cases e
    refine o G H st env F Q ds r q fun p vs G' H' x hp gp e' l => ?_
    exact k _ _ _ [p] x (.ol e' (slRs_fz l)) (by simp) fun a m => by cases List.mem_singleton.mp m; exact ⟨hp, gp⟩
theorem PV.o {e : Expr} {f : VL.Env → Option D} (h : PV X e f) : PO X e (fun env => (f env).map S.fz) := by
  obtain ⟨t, p, o⟩ := h.ex
  refine ⟨t, p, fun G H st env F Q s r e k => ?_⟩
  cases q : f env with
  | none => rw [q] at e; cases e
  | some ds =>
    rw [q] at e; cases e
    exact o G H st env F Q ds r q fun v G' H' x l => k _ _ _ [] x (.fz l) .nil fun a m => by cases m

/-! ### names, constants -/
theorem v_name (i : Nat) {x : Str} {pos : Pos} (hN : X.N[i]? = some x := by rfl) (hv : Vis X.env.scope x := by first | exact Or.inl rfl | exact Or.inr (Or.inl rfl) | exact Or.inr (Or.inr rfl))
    (hd : (x == ("__debug__" : Str)) = false := by decide) (hcd : (x == ("__classdict__" : Str)) = false := by decide) : PV X (.Name x pos) (fun env => getF env i) := by
  refine ⟨tVar i, pe_var hN hv hd hcd, fun G H st env F Q d r e k => ?_⟩
  obtain ⟨v, h1, h2⟩ := r.fz (getF_some e)
  exact ⟨v, h1, k v G H (Ex.refl r.sub) h2⟩
theorem w_name (i : Nat) {x : Str} {pos : Pos} (hN : X.N[i]? = some x := by rfl) (hv : Vis X.env.scope x := by first | exact Or.inl rfl | exact Or.inr (Or.inl rfl) | exact Or.inr (Or.inr rfl))
    (hd : (x == ("__debug__" : Str)) = false := by decide) (hcd : (x == ("__classdict__" : Str)) = false := by decide) : PW X (.Name x pos) (fun env => getW env i) := by
  refine ⟨tVar i, pe_var hN hv hd hcd, fun G H st env F Q d r e k => ?_⟩
  obtain ⟨s, h1, h2, h3⟩ := getW_some e
  obtain ⟨v, h4, h5⟩ := r.view h1 h2
  subst h3
  exact ⟨v, h4, k v G H (Ex.refl r.sub) h5⟩
theorem v_int {i : Int} {j : Nat} {pos : Pos} : PV X (.Constant (.int i) j pos) (fun _ => some (.int i)) := ⟨_, pe_int, fun G H st env F Q d r e k => by cases e; exact k _ G H (Ex.refl r.sub) (.int i)⟩
theorem v_bl {i : Bool} {j : Nat} {pos : Pos} : PV X (.Constant (.bool i) j pos) (fun _ => some (.bl i)) := ⟨_, pe_bl, fun G H st env F Q d r e k => by cases e; exact k _ G H (Ex.refl r.sub) (.bl i)⟩
theorem v_non {j : Nat} {pos : Pos} : PV X (.Constant .none j pos) (fun _ => some .non) := ⟨_, pe_non, fun G H st env F Q d r e k => by cases e; exact k _ G H (Ex.refl r.sub) .non⟩
theorem v_str {i : Str} {j : Nat} {pos : Pos} : PV X (.Constant (.str i) j pos) (fun _ => some (.str i)) := ⟨_, pe_str, fun G H st env F Q d r e k => by cases e; exact k _ G H (Ex.refl r.sub) (.str i)⟩

/-! ### operators by values -/
def OpF (X : Cx) (f : Value → Value → Sem Value) (g : D → D → Option D) : Prop :=
  ∃ r : R2, OpR X f r ∧ ∀ (G H : Hp) (x y : V) (d e z : D) (Q : VK), Same G H → Rp X.K G x d → Rp X.K G y e → g d e = some z → (∀ v G' H', Ex G H G' H' → Rp X.K G' v z → Q v H') → r x y H Q
def OpW (X : Cx) (f : Value → Value → Sem Value) (g : D → D → Option D) : Prop :=
  ∃ r : R2, OpR X f r ∧ ∀ (G H : Hp) (x y : V) (d e z : D) (Q : VK), Same G H → Rp X.K H x d → Rp X.K H y e → g d e = some z → (∀ v G' H', Ex G H G' H' → Rp X.K G' v z → Q v H') → r x y H Q
theorem OpW.f {f : Value → Value → Sem Value} {g : D → D → Option D} (h : OpW X f g) : OpF X f g := by
  obtain ⟨r, p, o⟩ := h
  exact ⟨r, p, fun G H x y d e z Q s rx ry q k => o G H x y d e z Q s (rx.up s) (ry.up s) q k⟩
theorem OpF.or {f : Value → Value → Sem Value} {g g' : D → D → Option D} (h : OpF X f g) (h' : OpF X f g') : OpF X f (fun d e => match g d e with | some z => some z | none => g' d e) := by
  obtain ⟨r, p, o⟩ := h
  obtain ⟨r', p', o'⟩ := h'
  refine ⟨_, p.or p', fun G H x y d e z Q s rx ry q k => ?_⟩
  cases c : g d e with
  | some u =>
    dsimp only at q
    rw [c] at q
    exact .inl (o G H x y d e z Q s rx ry (c.trans q) k)
  | none =>
    dsimp only at q
    rw [c] at q
    exact .inr (o' G H x y d e z Q s rx ry q k)
theorem OpF.of {f : Value → Value → Sem Value} {g g' : D → D → Option D} (h : OpF X f g) (k : ∀ d e z, g' d e = some z → g d e = some z) : OpF X f g' := by
  obtain ⟨r, p, o⟩ := h
  exact ⟨r, p, fun G H x y d e z Q s rx ry q => o G H x y d e z Q s rx ry (k d e z q)⟩
theorem OpW.or {f : Value → Value → Sem Value} {g g' : D → D → Option D} (h : OpW X f g) (h' : OpW X f g') : OpW X f (fun d e => match g d e with | some z => some z | none => g' d e) := by
  obtain ⟨r, p, o⟩ := h
  obtain ⟨r', p', o'⟩ := h'
  refine ⟨_, p.or p', fun G H x y d e z Q s rx ry q k => ?_⟩
  cases c : g d e with
  | some u =>
    dsimp only at q
    rw [c] at q
    exact .inl (o G H x y d e z Q s rx ry (c.trans q) k)
  | none =>
    dsimp only at q
    rw [c] at q
    exact .inr (o' G H x y d e z Q s rx ry q k)
theorem OpW.of {f : Value → Value → Sem Value} {g g' : D → D → Option D} (h : OpW X f g) (k : ∀ d e z, g' d e = some z → g d e = some z) : OpW X f g' := by
  obtain ⟨r, p, o⟩ := h
  exact ⟨r, p, fun G H x y d e z Q s rx ry q => o G H x y d e z Q s rx ry (k d e z q)⟩
@[simp] def b2 (fa fb : VL.Env → Option D) (g : D → D → Option D) : VL.Env → Option D := fun env => (fa env).bind fun x => (fb env).bind fun y => g x y
theorem twoF {a b : Expr} {fa fb : VL.Env → Option D} {g : D → D → Option D} {r : R2} (ha : PV X a fa) (hb : PV X b fb)
    (o : ∀ (G H : Hp) (x y : V) (d e z : D) (Q : VK), Same G H → Rp X.K G x d → Rp X.K G y e → g d e = some z → (∀ v G' H', Ex G H G' H' → Rp X.K G' v z → Q v H') → r x y H Q) :
    ∃ ta tb, PE X a ta ∧ PE X b tb ∧ ∀ (G H : Hp) (st : L2.St) (env : VL.Env) (F : Nat → List Addr) (Q : VK) (d : D), ER X.K G H st env F → b2 fa fb g env = some d →
      (∀ v G' H', Ex G H G' H' → Rp X.K G' v d → Q v H') → tOp r ta tb st H Q := by
  obtain ⟨ta, pa, oa⟩ := ha.ex
  obtain ⟨tb, pb, ob⟩ := hb.ex
  refine ⟨ta, tb, pa, pb, fun G H st env F Q d re e k => ?_⟩
  simp only [b2] at e
  obtain ⟨x, e1, e⟩ := Option.bind_eq_some_iff.mp e
  obtain ⟨y, e2, e⟩ := Option.bind_eq_some_iff.mp e
  refine oa G H st env F _ x re e1 fun v1 G1 H1 x1 r1 => ob G1 H1 st env F _ y (re.ext x1) e2 fun v2 G2 H2 x2 r2 => ?_
  exact o G2 H2 v1 v2 x y d Q x2.gh (r1.up x2.gg) r2 e fun v G' H' x3 r3 => k v G' H' ((x1.trans x2).trans x3) r3
theorem twoW {a b : Expr} {fa fb : VL.Env → Option D} {g : D → D → Option D} {r : R2} (ha : PW X a fa) (hb : PW X b fb)
    (o : ∀ (G H : Hp) (x y : V) (d e z : D) (Q : VK), Same G H → Rp X.K H x d → Rp X.K H y e → g d e = some z → (∀ v G' H', Ex G H G' H' → Rp X.K G' v z → Q v H') → r x y H Q) :
    ∃ ta tb, PE X a ta ∧ PE X b tb ∧ ∀ (G H : Hp) (st : L2.St) (env : VL.Env) (F : Nat → List Addr) (Q : VK) (d : D), ER X.K G H st env F → b2 fa fb g env = some d →
      (∀ v G' H', Ex G H G' H' → Rp X.K G' v d → Q v H') → tOp r ta tb st H Q := by
  obtain ⟨ta, pa, oa⟩ := ha.ex
  obtain ⟨tb, pb, ob⟩ := hb.ex
  refine ⟨ta, tb, pa, pb, fun G H st env F Q d re e k => ?_⟩
  simp only [b2] at e
  obtain ⟨x, e1, e⟩ := Option.bind_eq_some_iff.mp e
  obtain ⟨y, e2, e⟩ := Option.bind_eq_some_iff.mp e
  refine oa G H st env F _ x re e1 fun v1 G1 H1 x1 r1 => ob G1 H1 st env F _ y (re.ext x1) e2 fun v2 G2 H2 x2 r2 => ?_
  exact o G2 H2 v1 v2 x y d Q x2.gh (r1.up x2.hh) r2 e fun v G' H' x3 r3 => k v G' H' ((x1.trans x2).trans x3) r3
theorem v_op {op : Operator} {a b : Expr} {pos : Pos} {fa fb : VL.Env → Option D} {g : D → D → Option D} (ho : OpF X (binaryOp op) g) (ha : PV X a fa) (hb : PV X b fb) : PV X (.BinOp a op b pos) (b2 fa fb g) := by
  obtain ⟨r, p, o⟩ := ho
  obtain ⟨ta, tb, pa, pb, q⟩ := twoF ha hb o
  exact ⟨_, pe_op p pa pb, q⟩
theorem v_opW {op : Operator} {a b : Expr} {pos : Pos} {fa fb : VL.Env → Option D} {g : D → D → Option D} (ho : OpW X (binaryOp op) g) (ha : PW X a fa) (hb : PW X b fb) : PV X (.BinOp a op b pos) (b2 fa fb g) := by
  obtain ⟨r, p, o⟩ := ho
  obtain ⟨ta, tb, pa, pb, q⟩ := twoW ha hb o
  exact ⟨_, pe_op p pa pb, q⟩
/-- a comparison as a value -/
theorem v_cmp {op : CmpOp} {a b : Expr} {pos : Pos} {fa fb : VL.Env → Option D} {g : D → D → Option D} (ho : OpW X (compareOp op) g) (ha : PW X a fa) (hb : PW X b fb) (hm : behindInMarks op b = false) : PV X (.Compare a [op] [b] pos) (b2 fa fb g) := by
  obtain ⟨r, p, o⟩ := ho
  obtain ⟨ta, tb, pa, pb, q⟩ := twoW ha hb o
  exact ⟨_, pe_cmpR p pa pb hm, q⟩
def bOf : D → Option Bool
  | .bl b => some b
  | _ => none
@[simp] theorem bOf_bl (b : Bool) : bOf (.bl b) = some b := rfl
theorem bOf_some {d : D} {b : Bool} (h : bOf d = some b) : d = .bl b := by
  cases d <;> first | (cases h; rfl) | cases h
@[simp] def tb (f : VL.Env → Option D) : VL.Env → Option Bool := fun env => (f env).bind bOf
/-- a comparison as a test -/
theorem t_cmp {op : CmpOp} {a b : Expr} {pos : Pos} {fa fb : VL.Env → Option D} {g : D → D → Option D} (ho : OpW X (compareOp op) g) (ha : PW X a fa) (hb : PW X b fb) (hm : behindInMarks op b = false) : TB X (.Compare a [op] [b] pos) (tb (b2 fa fb g)) := by
  obtain ⟨r, p, o⟩ := ho
  obtain ⟨ta, tb', pa, pb, q⟩ := twoW ha hb o
  refine ⟨_, pt_cmpR p pa pb hm, fun G H st env F Q b re e k => ?_⟩
  simp only [tb] at e
  obtain ⟨d, e1, e2⟩ := Option.bind_eq_some_iff.mp e
  obtain rfl := bOf_some e2
  refine q G H st env F _ _ re e1 fun v G' H' x rv => ?_
  cases rv
  exact ⟨b, rfl, k G' H' x⟩
/-- any other expression that gives a bool, as a test -/
theorem t_val {a : Expr} {fa : VL.Env → Option D} (ha : PV X a fa) (he : ∀ whole, isTrue a X.env whole = (do let v ← whole; standAt a.pos; holding [v] (truthy v)) := by intro _; rfl) : TB X a (tb fa) := by
  obtain ⟨t, p, o⟩ := ha.ex
  refine ⟨_, pt_val p he, fun G H st env F Q b re e k => ?_⟩
  simp only [tb] at e
  obtain ⟨d, e1, e2⟩ := Option.bind_eq_some_iff.mp e
  obtain rfl := bOf_some e2
  refine o G H st env F _ _ re e1 fun v G' H' x rv => ?_
  cases rv
  exact ⟨b, rfl, k G' H' x⟩
/-- .. by its truth -/
def truD : D → Option Bool
  | .non => some false
  | .bl b => some b
  | .int i => some (i != 0)
  | .lst xs => some (!xs.isEmpty)
  | .tup xs => some (!xs.isEmpty)
  | .dic false xs => some (!xs.isEmpty)
  | _ => none
theorem RpL.isEmpty {K : PySem.W.Frag} {H : Hp} {vs : List V} {ds : List D} (h : RpL K H vs ds) : vs.isEmpty = ds.isEmpty := by cases h <;> rfl
theorem RpK.isEmpty {K : PySem.W.Frag} {H : Hp} {vs : List (Key × V)} {ds : List (D × D)} (h : RpK K H vs ds) : vs.isEmpty = ds.isEmpty := by cases h <;> rfl
@[simp] def tt (f : VL.Env → Option D) : VL.Env → Option Bool := fun env => (f env).bind truD
theorem truV_of {K : PySem.W.Frag} {H : Hp} {v : V} {d : D} {b : Bool} (r : Rp K H v d) (e : truD d = some b) (hu : ∀ kvs t, d ≠ .dic t kvs) : TruV K v H b := by
  cases r with
  | non => cases e; rfl
  | bl c => cases e; rfl
  | int i => cases e; rfl
  | str x => cases e
  | lst h l => cases e; exact .inl ⟨_, SqL.of h, by rw [l.isEmpty]⟩
  | tup h l => cases e; exact .inr (.inl ⟨_, SqT.of h, by rw [l.isEmpty]⟩)
  | dK h l => exact absurd rfl (hu _ _)
  | dT h l => exact absurd rfl (hu _ _)
def truE : D → Option Bool
  | .dic _ _ => none
  | d => truD d
theorem t_tru {a : Expr} {fa : VL.Env → Option D} (ha : PW X a fa) (he : ∀ whole, isTrue a X.env whole = (do let v ← whole; standAt a.pos; holding [v] (truthy v)) := by intro _; rfl) : TB X a (fun env => (fa env).bind truE) := by
  obtain ⟨t, p, o⟩ := ha.ex
  refine ⟨_, pt_truth p he, fun G H st env F Q b re e k => ?_⟩
  obtain ⟨d, e1, e2⟩ := Option.bind_eq_some_iff.mp e
  refine o G H st env F _ _ re e1 fun v G' H' x rv => ?_
  have h1 : truD d = some b ∧ ∀ kvs t, d ≠ .dic t kvs := by
    cases d <;> first | exact ⟨e2, fun _ _ z => nomatch z⟩ | cases e2
  exact ⟨b, truV_of rv h1.1 h1.2, k G' H' x⟩
/-! ### and, or, not, if -/
@[simp] def tAnd2 (f g : VL.Env → Option Bool) : VL.Env → Option Bool := fun env => (f env).bind fun b => if b then g env else some false
@[simp] def tOr2 (f g : VL.Env → Option Bool) : VL.Env → Option Bool := fun env => (f env).bind fun b => if b then some true else g env
@[simp] def tNot1 (f : VL.Env → Option Bool) : VL.Env → Option Bool := fun env => (f env).map not
/-- chains of and, or -/
structure TW (X : Cx) (e : Expr) (f : VL.Env → Option Bool) : Prop where
  ex : ∃ t, L2.PW X e t ∧ ∀ (G H : Hp) (st : L2.St) (env : VL.Env) (F : Nat → List Addr) (Q : Bool → Hp → Prop) (b : Bool), ER X.K G H st env F → f env = some b →
    (∀ G' H', Ex G H G' H' → Q b H') → t st H Q
theorem TW.t {e : Expr} {f : VL.Env → Option Bool} (h : TW X e f) : TB X e f := by
  obtain ⟨t, p, o⟩ := h.ex
  exact ⟨t, p.pt, o⟩
variable {a b c : Expr} {rest : List Expr} {pos : Pos} {f g : VL.Env → Option Bool} {fa fb : VL.Env → Option D}
theorem tw_and1 (h : TB X a f) : TW X (.BoolOp .And [a] pos) f := by
  obtain ⟨t, p, o⟩ := h.ex
  exact ⟨t, pw_and1 p, o⟩
theorem tw_or1 (h : TB X a f) : TW X (.BoolOp .Or [a] pos) f := by
  obtain ⟨t, p, o⟩ := h.ex
  exact ⟨t, pw_or1 p, o⟩
theorem tw_and (h : TB X a f) (h' : TW X (.BoolOp .And (b :: rest) pos) g) : TW X (.BoolOp .And (a :: b :: rest) pos) (tAnd2 f g) := by
  obtain ⟨t, p, o⟩ := h.ex
  obtain ⟨t', p', o'⟩ := h'.ex
  refine ⟨_, pw_and p p', fun G H st env F Q d re e k => ?_⟩
  simp only [tAnd2] at e
  obtain ⟨x, e1, e2⟩ := Option.bind_eq_some_iff.mp e
  refine o G H st env F _ _ re e1 fun G' H' x1 => ?_
  cases x with
  | true => exact iteT (o' G' H' st env F _ _ (re.ext x1) e2 fun G2 H2 x2 => k G2 H2 (x1.trans x2))
  | false => cases e2; exact iteF (k G' H' x1)
theorem tw_or (h : TB X a f) (h' : TW X (.BoolOp .Or (b :: rest) pos) g) : TW X (.BoolOp .Or (a :: b :: rest) pos) (tOr2 f g) := by
  obtain ⟨t, p, o⟩ := h.ex
  obtain ⟨t', p', o'⟩ := h'.ex
  refine ⟨_, pw_or p p', fun G H st env F Q d re e k => ?_⟩
  simp only [tOr2] at e
  obtain ⟨x, e1, e2⟩ := Option.bind_eq_some_iff.mp e
  refine o G H st env F _ _ re e1 fun G' H' x1 => ?_
  cases x with
  | true => cases e2; exact iteT (k G' H' x1)
  | false => exact iteF (o' G' H' st env F _ _ (re.ext x1) e2 fun G2 H2 x2 => k G2 H2 (x1.trans x2))
theorem t_not (h : TB X a f) : TB X (.UnaryOp .Not a pos) (tNot1 f) := by
  obtain ⟨t, p, o⟩ := h.ex
  refine ⟨_, pt_not p, fun G H st env F Q d re e k => ?_⟩
  simp only [tNot1] at e
  obtain ⟨x, e1, e2⟩ := Option.map_eq_some_iff.mp e
  subst e2
  exact o G H st env F _ _ re e1 fun G' H' x1 => k G' H' x1
/-- as values: bools -/
@[simp] def vAnd2 (f g : VL.Env → Option D) : VL.Env → Option D := fun env => (f env).bind fun d => (bOf d).bind fun b => if b then g env else some (.bl false)
@[simp] def vOr2 (f g : VL.Env → Option D) : VL.Env → Option D := fun env => (f env).bind fun d => (bOf d).bind fun b => if b then some (.bl true) else g env
theorem v_one {op : BoolOp} (h : PV X a fa) : PV X (.BoolOp op [a] pos) fa := by
  obtain ⟨t, p, o⟩ := h.ex
  exact ⟨t, pe_one p, o⟩
theorem v_and (h : PV X a fa) (h' : PV X (.BoolOp .And (b :: rest) pos) fb) : PV X (.BoolOp .And (a :: b :: rest) pos) (vAnd2 fa fb) := by
  obtain ⟨t, p, o⟩ := h.ex
  obtain ⟨t', p', o'⟩ := h'.ex
  refine ⟨_, pe_and p p', fun G H st env F Q d re e k => ?_⟩
  simp only [vAnd2] at e
  obtain ⟨x, e1, e⟩ := Option.bind_eq_some_iff.mp e
  obtain ⟨y, e2, e3⟩ := Option.bind_eq_some_iff.mp e
  obtain rfl := bOf_some e2
  refine o G H st env F _ _ re e1 fun v G' H' x1 rv => ?_
  cases rv
  refine ⟨y, rfl, ?_⟩
  cases y with
  | true => exact iteT (o' G' H' st env F _ _ (re.ext x1) e3 fun v G2 H2 x2 r2 => k v G2 H2 (x1.trans x2) r2)
  | false => cases e3; exact iteF (k _ G' H' x1 (.bl false))
theorem v_or (h : PV X a fa) (h' : PV X (.BoolOp .Or (b :: rest) pos) fb) : PV X (.BoolOp .Or (a :: b :: rest) pos) (vOr2 fa fb) := by
  obtain ⟨t, p, o⟩ := h.ex
  obtain ⟨t', p', o'⟩ := h'.ex
  refine ⟨_, pe_or p p', fun G H st env F Q d re e k => ?_⟩
  simp only [vOr2] at e
  obtain ⟨x, e1, e⟩ := Option.bind_eq_some_iff.mp e
  obtain ⟨y, e2, e3⟩ := Option.bind_eq_some_iff.mp e
  obtain rfl := bOf_some e2
  refine o G H st env F _ _ re e1 fun v G' H' x1 rv => ?_
  cases rv
  refine ⟨y, rfl, ?_⟩
  cases y with
  | true => cases e3; exact iteT (k _ G' H' x1 (.bl true))
  | false => exact iteF (o' G' H' st env F _ _ (re.ext x1) e3 fun v G2 H2 x2 r2 => k v G2 H2 (x1.trans x2) r2)
@[simp] def vNot1 (f : VL.Env → Option D) : VL.Env → Option D := fun env => (f env).bind fun d => (bOf d).map fun b => .bl (!b)
theorem v_not (h : PV X a fa) : PV X (.UnaryOp .Not a pos) (vNot1 fa) := by
  obtain ⟨t, p, o⟩ := h.ex
  refine ⟨_, pe_not p, fun G H st env F Q d re e k => ?_⟩
  simp only [vNot1] at e
  obtain ⟨x, e1, e⟩ := Option.bind_eq_some_iff.mp e
  obtain ⟨y, e2, e3⟩ := Option.map_eq_some_iff.mp e
  obtain rfl := bOf_some e2
  subst e3
  refine o G H st env F _ _ re e1 fun v G' H' x1 rv => ?_
  cases rv
  exact ⟨y, rfl, k _ G' H' x1 (.bl _)⟩
@[simp] def vIf (c : VL.Env → Option Bool) (f g : VL.Env → Option D) : VL.Env → Option D := fun env => (c env).bind fun b => if b then f env else g env
theorem v_if (hc : TB X c f) (ha : PV X a fa) (hb : PV X b fb) : PV X (.IfExp c a b pos) (vIf f fa fb) := by
  obtain ⟨tc, pc, oc⟩ := hc.ex
  obtain ⟨t, p, o⟩ := ha.ex
  obtain ⟨t', p', o'⟩ := hb.ex
  refine ⟨_, pe_ifExp pc p p', fun G H st env F Q d re e k => ?_⟩
  simp only [vIf] at e
  obtain ⟨x, e1, e2⟩ := Option.bind_eq_some_iff.mp e
  refine oc G H st env F _ _ re e1 fun G' H' x1 => ?_
  cases x with
  | true => exact iteT (o G' H' st env F _ _ (re.ext x1) e2 fun v G2 H2 x2 r2 => k v G2 H2 (x1.trans x2) r2)
  | false => exact iteF (o' G' H' st env F _ _ (re.ext x1) e2 fun v G2 H2 x2 r2 => k v G2 H2 (x1.trans x2) r2)
/-- a op b op c -/
@[simp] def vChain (fa fb fc : VL.Env → Option D) (g g' : D → D → Option D) : VL.Env → Option D := fun env => (fa env).bind fun x => (fb env).bind fun y => (g x y).bind fun z => (bOf z).bind fun k => if k then (fc env).bind fun w => g' y w else some (.bl false)
theorem chain_ok {op op' : CmpOp} {fc : VL.Env → Option D} {g g' : D → D → Option D} (ho : OpW X (compareOp op) g) (ho' : OpW X (compareOp op') g') (ha : PW X a fa) (hb : PW X b fb) (hc : PW X c fc) :
    ∃ r r' ta tb tc, OpR X (compareOp op) r ∧ OpR X (compareOp op') r' ∧ PE X a ta ∧ PE X b tb ∧ PE X c tc ∧ ∀ (G H : Hp) (st : L2.St) (env : VL.Env) (F : Nat → List Addr) (Q : VK) (d : D), ER X.K G H st env F → vChain fa fb fc g g' env = some d →
      (∀ v G' H', Ex G H G' H' → Rp X.K G' v d → Q v H') → tChain r r' ta tb tc st H Q := by
  obtain ⟨r, p, o⟩ := ho
  obtain ⟨r', p', o'⟩ := ho'
  obtain ⟨ta, pa, oa⟩ := ha.ex
  obtain ⟨tb, pb, ob⟩ := hb.ex
  obtain ⟨tc, pc, oc⟩ := hc.ex
  refine ⟨r, r', ta, tb, tc, p, p', pa, pb, pc, fun G H st env F Q d re e k => ?_⟩
  simp only [vChain] at e
  obtain ⟨x, e1, e⟩ := Option.bind_eq_some_iff.mp e
  obtain ⟨y, e2, e⟩ := Option.bind_eq_some_iff.mp e
  obtain ⟨z, e3, e⟩ := Option.bind_eq_some_iff.mp e
  obtain ⟨kk, e4, e⟩ := Option.bind_eq_some_iff.mp e
  obtain rfl := bOf_some e4
  refine oa G H st env F _ x re e1 fun v1 G1 H1 x1 r1 => ob G1 H1 st env F _ y (re.ext x1) e2 fun v2 G2 H2 x2 r2 => ?_
  refine o G2 H2 v1 v2 x y _ _ x2.gh (r1.up x2.hh) r2 e3 fun v G3 H3 x3 r3 => ?_
  cases r3
  refine ⟨kk, rfl, ?_⟩
  have x123 := (x1.trans x2).trans x3
  cases kk with
  | false => cases e; exact iteF (k _ _ _ x123 (.bl false))
  | true =>
    obtain ⟨w, e5, e6⟩ := Option.bind_eq_some_iff.mp (show (fc env).bind (fun w => g' y w) = some d from e)
    refine iteT (oc G3 H3 st env F _ w (re.ext x123) e5 fun v4 G4 H4 x4 r4 => ?_)
    exact o' G4 H4 v2 v4 y w d Q x4.gh ((r2.up x3.hh).up x4.hh) r4 e6 fun v G' H' x5 r5 => k v G' H' ((x123.trans x4).trans x5) r5
theorem v_chain {op op' : CmpOp} {fc : VL.Env → Option D} {g g' : D → D → Option D} (ho : OpW X (compareOp op) g) (ho' : OpW X (compareOp op') g') (ha : PW X a fa) (hb : PW X b fb) (hc : PW X c fc)
    (hm : lastMarks [op, op'] [b, c] = false := by with_unfolding_all rfl) : PV X (.Compare a [op, op'] [b, c] pos) (vChain fa fb fc g g') := by
  obtain ⟨r, r', ta, tb, tc, p, p', pa, pb, pc, q⟩ := chain_ok ho ho' ha hb hc
  exact ⟨_, pe_chain p p' pa pb pc hm, q⟩
theorem t_chain {op op' : CmpOp} {fc : VL.Env → Option D} {g g' : D → D → Option D} (ho : OpW X (compareOp op) g) (ho' : OpW X (compareOp op') g') (ha : PW X a fa) (hb : PW X b fb) (hc : PW X c fc)
    (hm : lastMarks [op, op'] [b, c] = false := by with_unfolding_all rfl) : TB X (.Compare a [op, op'] [b, c] pos) (tb (vChain fa fb fc g g')) := by
  obtain ⟨r, r', ta, tb', tc, p, p', pa, pb, pc, q⟩ := chain_ok ho ho' ha hb hc
  refine ⟨_, pt_chain p p' pa pb pc hm, fun G H st env F Q b re e k => ?_⟩
  simp only [tb] at e
  obtain ⟨d, e1, e2⟩ := Option.bind_eq_some_iff.mp e
  obtain rfl := bOf_some e2
  refine q G H st env F _ _ re e1 fun v G' H' x rv => ?_
  cases rv
  exact ⟨b, rfl, k G' H' x⟩

/-! ### argument lists, displays -/
@[simp] def aCons (f : VL.Env → Option D) (g : VL.Env → Option (List D)) : VL.Env → Option (List D) := fun env => (f env).bind fun x => (g env).bind fun xs => some (x :: xs)
theorem a_nil : AV X [] (fun _ => some []) := ⟨tNil, pa_nil, fun G H st env F Q ds re e k => by cases e; exact k [] G H (Ex.refl re.sub) .nil⟩
theorem a_cons {e : Expr} {es : List Expr} {fs : VL.Env → Option (List D)} (h : PV X e fa) (hr : AV X es fs) (hs : starEach (e :: es) X.env = (false, eval e X.env) :: starEach es X.env := by rfl) : AV X (e :: es) (aCons fa fs) := by
  obtain ⟨t, p, o⟩ := h.ex
  obtain ⟨t', p', o'⟩ := hr.ex
  refine ⟨_, pa_cons p p' hs, fun G H st env F Q ds re e k => ?_⟩
  simp only [aCons] at e
  obtain ⟨x, e1, e⟩ := Option.bind_eq_some_iff.mp e
  obtain ⟨xs, e2, e3⟩ := Option.bind_eq_some_iff.mp e
  cases e3
  exact o G H st env F _ _ re e1 fun v G1 H1 x1 r1 => o' G1 H1 st env F _ _ (re.ext x1) e2 fun vs G2 H2 x2 r2 => k _ G2 H2 (x1.trans x2) (.cons (r1.up x2.gg) r2)
theorem aw_nil : AW X [] (fun _ => some []) := ⟨tNil, pa_nil, fun G H st env F Q ds re e k => by cases e; exact k [] G H (Ex.refl re.sub) .nil⟩
theorem aw_cons {e : Expr} {es : List Expr} {fs : VL.Env → Option (List D)} (h : PW X e fa) (hr : AW X es fs) (hs : starEach (e :: es) X.env = (false, eval e X.env) :: starEach es X.env := by rfl) : AW X (e :: es) (aCons fa fs) := by
  obtain ⟨t, p, o⟩ := h.ex
  obtain ⟨t', p', o'⟩ := hr.ex
  refine ⟨_, pa_cons p p' hs, fun G H st env F Q ds re e k => ?_⟩
  simp only [aCons] at e
  obtain ⟨x, e1, e⟩ := Option.bind_eq_some_iff.mp e
  obtain ⟨xs, e2, e3⟩ := Option.bind_eq_some_iff.mp e
  cases e3
  exact o G H st env F _ _ re e1 fun v G1 H1 x1 r1 => o' G1 H1 st env F _ _ (re.ext x1) e2 fun vs G2 H2 x2 r2 => k _ G2 H2 (x1.trans x2) (.cons (r1.up x2.hh) r2)
theorem small_line {n : Nat} (h : n < 1000) : n ≤ sizeLine := by rw [sizeLine_eq]; omega
theorem l_disp {es : List Expr} {fs : VL.Env → Option (List D)} (h : AV X es fs) (hl : es.length < 1000 := by decide) : PL X (.List es pos) (fun env => (fs env).bind fun ds => if ds.length < 1000 then some ds else none) := by
  obtain ⟨t, p, o⟩ := h.ex
  refine ⟨_, pe_lst p, fun G H st env F Q ds re e k => ?_⟩
  obtain ⟨ds', e1, e2⟩ := Option.bind_eq_some_iff.mp e
  split at e2
  · rename_i hlen
    cases e2
    refine o G H st env F _ _ re e1 fun vs G1 H1 x1 r1 => ⟨small_line (by rw [r1.length]; exact hlen), fun p np => ?_⟩
    exact k p vs G1 _ (x1.trans (Ex.own x1.gh np)) (x1.hh.free np) (x1.gh.free np) upd_same r1
  · cases e2
theorem v_tup {es : List Expr} {fs : VL.Env → Option (List D)} {x1} (h : AV X es fs) : PV X (.Tuple es x1 pos) (fun env => (fs env).bind fun ds => if ds.length < 1000 then some (.tup ds) else none) := by
  obtain ⟨t, p, o⟩ := h.ex
  refine ⟨_, pe_tup p, fun G H st env F Q d re e k => ?_⟩
  obtain ⟨ds', e1, e2⟩ := Option.bind_eq_some_iff.mp e
  split at e2
  · rename_i hlen
    cases e2
    refine o G H st env F _ _ re e1 fun vs G1 H1 x1 r1 => ⟨small_line (by rw [r1.length]; exact hlen), fun p np => ?_⟩
    exact k _ _ _ (x1.trans (Ex.frz x1.gh np)) (.tup upd_same (r1.up (same_upd (x1.gh.free np))))
  · cases e2
end
end VL

set_option Elab.async false
set_option linter.all false
set_option maxRecDepth 100000
/-! VL3: the operations on data, each by the layer's rule. -/
namespace VL
open PySem PySem.Spec PyProof.Rows L2

/-! ### keys of dicts -/
def keyD : D → Option Key
  | .int i => some (.inl i)
  | .str x => some (.inr x)
  | _ => none
def keysD : List D → Option (List Key)
  | [] => some []
  | d :: ds => (keyD d).bind fun k => (keysD ds).map (k :: ·)
def tkeyD : D → Option (List Key)
  | .tup ds => keysD ds
  | _ => none
theorem keyD_kD (k : Key) : keyD (kD k) = some k := by cases k <;> rfl
theorem keysD_map : ∀ ks : List Key, keysD (ks.map kD) = some ks
  | [] => rfl
  | k :: ks => by
    show (keyD (kD k)).bind _ = _
    rw [keyD_kD, keysD_map ks]; rfl
theorem kD_of {d : D} {k : Key} (h : keyD d = some k) : d = kD k := by
  cases d <;> first | (cases h; rfl) | cases h
theorem kDs_of : ∀ {ds : List D} {ks : List Key}, keysD ds = some ks → ds = ks.map kD
  | [], _, h => by cases h; rfl
  | d :: ds, _, h => by
    obtain ⟨k, h1, h2⟩ := Option.bind_eq_some_iff.mp (show (keyD d).bind _ = _ from h)
    obtain ⟨ks, h3, h4⟩ := Option.map_eq_some_iff.mp h2
    subst h4
    rw [kD_of h1, kDs_of h3]; rfl
def lookK (k : Key) : List (D × D) → Option D
  | [] => none
  | (d, x) :: r => if keyD d = some k then some x else lookK k r
def lookT (k : List Key) : List (D × D) → Option D
  | [] => none
  | (d, x) :: r => if tkeyD d = some k then some x else lookT k r
section
variable {K : PySem.W.Frag} {G H : Hp}
theorem Rp.key {v : V} {k : Key} (h : Rp K H v (kD k)) : v = kV k := by
  cases k with
  | inl i => cases (show Rp K H v (.int i) from h); rfl
  | inr x => cases (show Rp K H v (.str x) from h); rfl
theorem RpL.keys : ∀ {vs : List V} {ks : List Key}, RpL K H vs (ks.map kD) → vs = ks.map kV
  | _, [], h => by cases h; rfl
  | _, k :: ks, h => by
    cases h with
    | cons h1 h2 => rw [h1.key, RpL.keys h2]; rfl
/-- what a dict holds: the place's value and the data agree -/
inductive OptR (K : PySem.W.Frag) (H : Hp) : Option V → Option D → Prop
  | none : OptR K H none none
  | some {v : V} {d : D} : Rp K H v d → OptR K H (some v) (some d)
theorem RpK.look : ∀ {vs : List (Key × V)} {ds : List (D × D)} (k : Key), RpK K H vs ds → OptR K H (valV vs k) (lookK k ds)
  | _, _, _, .nil => .none
  | (k', v) :: vs, _, k, .cons (d := d) (ds := ds) h t => by
    show OptR K H _ (if keyD (kD k') = some k then some d else lookK k ds)
    rw [keyD_kD]
    by_cases e : k' = k
    · subst e
      rw [if_pos rfl, valV_pos (p := (k', v)) rfl]
      exact .some h
    · rw [if_neg (fun z => e (Option.some.inj z)), valV_neg (p := (k', v)) e]
      exact RpK.look k t
theorem RpT.look : ∀ {vs : List (List Key × V)} {ds : List (D × D)} (k : List Key), RpT K H vs ds → OptR K H (valV vs k) (lookT k ds)
  | _, _, _, .nil => .none
  | (k', v) :: vs, _, k, .cons (d := d) (ds := ds) h t => by
    show OptR K H _ (if keysD (k'.map kD) = some k then some d else lookT k ds)
    rw [keysD_map]
    by_cases e : k' = k
    · subst e
      rw [if_pos rfl, valV_pos (p := (k', v)) rfl]
      exact .some h
    · rw [if_neg (fun z => e (Option.some.inj z)), valV_neg (p := (k', v)) e]
      exact RpT.look k t
theorem OptR.isSome {o : Option V} {u : Option D} (h : OptR K H o u) : o.isSome = u.isSome := by cases h <;> rfl
/-- a dict asked for a key -/
def dGet : D → D → Option (Option D)
  | .dic false kvs, k => (keyD k).map fun k => lookK k kvs
  | .dic true kvs, k => (tkeyD k).map fun k => lookT k kvs
  | _, _ => none
theorem dGet_ok {v y : V} {d k : D} {o : Option D} (hd : Rp K H v d) (hk : Rp K H y k) (e : dGet d k = some o) : ∃ a u, v = .ref a ∧ DGet H a y u ∧ OptR K H u o := by
  cases hd with
  | dK h l =>
    obtain ⟨kk, e1, e2⟩ := Option.map_eq_some_iff.mp (show (keyD k).map _ = _ from e)
    subst e2
    obtain rfl := kD_of e1
    rw [hk.key]
    exact ⟨_, _, rfl, .inl ⟨_, kk, h, rfl, rfl⟩, l.look kk⟩
  | dT h l =>
    obtain ⟨kk, e1, e2⟩ := Option.map_eq_some_iff.mp (show (tkeyD k).map _ = _ from e)
    subst e2
    cases hk with
    | tup h1 h2 =>
      obtain rfl := kDs_of (show keysD _ = some kk from e1)
      rw [h2.keys] at h1
      exact ⟨_, _, rfl, .inr ⟨_, kk, _, h, rfl, h1, rfl⟩, l.look kk⟩
    | _ => cases e1
  | _ => cases e
theorem isD_of {v : V} {d : D} {k : D} {o : Option D} (hd : Rp K H v d) (e : dGet d k = some o) : ∃ a, v = .ref a ∧ IsD H a := by
  cases hd with
  | dK h l => exact ⟨_, rfl, .inl ⟨_, h⟩⟩
  | dT h l => exact ⟨_, rfl, .inr ⟨_, h⟩⟩
  | _ => cases e
end

/-! ### numbers, + -/
def dAdd : D → D → Option D
  | .int i, .int j => some (.int (i + j))
  | .str x, .str y => if x.length + y.length ≤ sizeLine then some (.str (x ++ y)) else none
  | .lst xs, .lst ys => if xs.length + ys.length ≤ sizeLine then some (.lst (xs ++ ys)) else none
  | .tup xs, .tup ys => if xs.length + ys.length ≤ sizeLine then some (.tup (xs ++ ys)) else none
  | _, _ => none
def dSub : D → D → Option D
  | .int i, .int j => some (.int (i - j))
  | _, _ => none
def dMul : D → D → Option D
  | .int i, .int j => if i.natAbs < 2 ^ 64 ∨ j.natAbs < 2 ^ 64 then some (.int (i * j)) else none
  | .lst xs, .int k => if k < 2 ^ 62 ∧ -(2 ^ 62) < k ∧ xs.length * k.toNat ≤ sizeLine then some (.lst (List.replicate k.toNat xs).flatten) else none
  | _, _ => none
def dDiv : D → D → Option D
  | .int i, .int j => if 0 < j ∧ j.natAbs.log2 < 9000 then some (.int (i / j)) else none
  | _, _ => none
def dMod : D → D → Option D
  | .int i, .int j => if 0 < j then some (.int (i % j)) else none
  | _, _ => none
theorem log2_small {i : Int} {n : Nat} (h : i.natAbs < 2 ^ n) (h0 : 0 < n) : i.natAbs.log2 < n := PySem.Flt.log2_lt_of h0 h
theorem dMul_l {i j : Int} (hi : i.natAbs < 2 ^ 64) : dMul (.int i) (.int j) = some (.int (i * j)) := by
  show (if _ then _ else _) = _
  rw [if_pos (.inl hi)]
theorem dMul_r {i j : Int} (hj : j.natAbs < 2 ^ 64) : dMul (.int i) (.int j) = some (.int (i * j)) := by
  show (if _ then _ else _) = _
  rw [if_pos (.inr hj)]
theorem dDiv_small {i j : Int} (h0 : 0 < j) (hj : j.natAbs < 2 ^ 64) : dDiv (.int i) (.int j) = some (.int (i / j)) := by
  have h2 := log2_small hj (by decide)
  show (if _ then _ else _) = _
  rw [if_pos ⟨h0, by omega⟩]
theorem dMod_pos {i j : Int} (h0 : 0 < j) : dMod (.int i) (.int j) = some (.int (i % j)) := by
  show (if _ then _ else _) = _
  rw [if_pos h0]
section
variable {X : Cx}
theorem o_add : OpF X (binaryOp .Add) dAdd := by
  refine ⟨_, (op_add.or op_add_str).or (op_cat.or op_catA), fun G H x y d e z Q s rx ry q k => ?_⟩
  unfold dAdd at q
  split at q
  · cases rx; cases ry; cases q
    exact .inl (.inl ⟨_, _, rfl, rfl, k _ _ _ (Ex.refl s) (.int _)⟩)
  · split at q
    · rename_i hl
      cases rx; cases ry; cases q
      exact .inl (.inr ⟨_, _, rfl, rfl, hl, k _ _ _ (Ex.refl s) (.str _)⟩)
    · cases q
  · split at q
    · rename_i hl
      cases q
      cases rx with
      | lst h1 l1 =>
        cases ry with
        | lst h2 l2 =>
          refine .inr (.inl ⟨_, _, _, _, rfl, rfl, s _ _ h1, s _ _ h2, by rw [l1.length, l2.length]; exact hl, fun p np => ?_⟩)
          exact k _ _ _ (Ex.frz s np) (.lst upd_same ((l1.append l2).up (same_upd (s.free np))))
    · cases q
  · split at q
    · rename_i hl
      cases q
      cases rx with
      | tup h1 l1 =>
        cases ry with
        | tup h2 l2 =>
          refine .inr (.inr ⟨_, _, _, _, rfl, rfl, SqT.of (s _ _ h1), SqT.of (s _ _ h2), by rw [l1.length, l2.length]; exact hl, fun z => ?_, fun z z' => ?_, fun _ _ p np => ?_⟩)
          · subst z; cases l1; exact k _ _ _ (Ex.refl s) (.tup h2 l2)
          · subst z'; cases l2; rw [List.append_nil] at k; exact k _ _ _ (Ex.refl s) (.tup h1 l1)
          · exact k _ _ _ (Ex.frz s np) (.tup upd_same ((l1.append l2).up (same_upd (s.free np))))
    · cases q
  · cases q
theorem o_sub : OpF X (binaryOp .Sub) dSub := by
  refine ⟨_, op_sub, fun G H x y d e z Q s rx ry q k => ?_⟩
  unfold dSub at q
  split at q
  · cases rx; cases ry; cases q
    exact ⟨_, _, rfl, rfl, k _ _ _ (Ex.refl s) (.int _)⟩
  · cases q
theorem RpL.rep {K : PySem.W.Frag} {H : Hp} {vs : List V} {ds : List D} (h : RpL K H vs ds) : ∀ n : Nat, RpL K H (List.replicate n vs).flatten (List.replicate n ds).flatten
  | 0 => .nil
  | n + 1 => by
    rw [List.replicate_succ, List.replicate_succ, List.flatten_cons, List.flatten_cons]
    exact h.append (RpL.rep h n)
theorem o_mul : OpF X (binaryOp .Mult) dMul := by
  refine ⟨_, op_mul.or op_rep, fun G H x y d e z Q s rx ry q k => ?_⟩
  unfold dMul at q
  split at q
  · split at q
    · rename_i hl
      cases rx; cases ry; cases q
      exact .inl ⟨_, _, rfl, rfl, by unfold CMul; omega, k _ _ _ (Ex.refl s) (.int _)⟩
    · cases q
  · split at q
    · rename_i hl
      cases q; cases ry
      cases rx with
      | lst h1 l1 =>
        refine .inr ⟨_, _, _, rfl, rfl, s _ _ h1, by omega, by omega, by rw [l1.length]; exact hl.2.2, fun p np => ?_⟩
        exact k _ _ _ (Ex.frz s np) (.lst upd_same ((l1.rep _).up (same_upd (s.free np))))
    · cases q
  · cases q
theorem o_div : OpF X (binaryOp .FloorDiv) dDiv := by
  refine ⟨_, op_fdivW, fun G H x y d e z Q s rx ry q k => ?_⟩
  unfold dDiv at q
  split at q
  · split at q
    · rename_i hl
      cases rx; cases ry; cases q
      exact ⟨_, _, rfl, rfl, hl, k _ _ _ (Ex.refl s) (.int _)⟩
    · cases q
  · cases q
theorem o_mod : OpF X (binaryOp .Mod) dMod := by
  refine ⟨_, op_mod, fun G H x y d e z Q s rx ry q k => ?_⟩
  unfold dMod at q
  split at q
  · split at q
    · rename_i hl
      cases rx; cases ry; cases q
      exact ⟨_, _, rfl, rfl, hl, k _ _ _ (Ex.refl s) (.int _)⟩
    · cases q
  · cases q
def dNeg : D → Option D
  | .int i => some (.int (-i))
  | _ => none
theorem v_neg {a : Expr} {fa : VL.Env → Option D} {pos : Pos} (ha : PV X a fa) : PV X (.UnaryOp .USub a pos) (fun env => (fa env).bind dNeg) := by
  obtain ⟨t, p, o⟩ := ha.ex
  refine ⟨_, pe_un un_neg p, fun G H st env F Q d re e k => ?_⟩
  obtain ⟨x, e1, e2⟩ := Option.bind_eq_some_iff.mp e
  refine o G H st env F _ _ re e1 fun v G' H' x1 rv => ?_
  cases x <;> try cases e2
  cases rv
  exact ⟨_, rfl, k _ _ _ x1 (.int _)⟩
/-! ### comparisons -/
def dCmp (p : Int → Int → Bool) : D → D → Option D
  | .int i, .int j => some (.bl (p i j))
  | _, _ => none
theorem o_cmp {f : Value → Value → Sem Value} {p : Int → Int → Bool} (h : OpR X f (rI0 fun i j => .bl (p i j))) : OpW X f (dCmp p) := by
  refine ⟨_, h, fun G H x y d e z Q s rx ry q k => ?_⟩
  unfold dCmp at q
  split at q
  · cases rx; cases ry; cases q
    exact ⟨_, _, rfl, rfl, k _ _ _ (Ex.refl s) (.bl _)⟩
  · cases q
@[simp] abbrev dLt := dCmp fun i j => decide (i < j)
@[simp] abbrev dLe := dCmp fun i j => decide (i ≤ j)
@[simp] abbrev dGt := dCmp fun i j => decide (j < i)
@[simp] abbrev dGe := dCmp fun i j => decide (j ≤ i)
theorem o_lt : OpW X (compareOp .Lt) dLt := o_cmp op_lt
theorem o_le : OpW X (compareOp .LtE) dLe := o_cmp op_le
theorem o_gt : OpW X (compareOp .Gt) dGt := o_cmp op_gt
theorem o_ge : OpW X (compareOp .GtE) dGe := o_cmp op_ge
/-- == of data -/
def eqD (d e : D) : Bool := PyData.eqv d.py e.py
def cmpOk (d e : D) : Bool := d.plain && e.plain && decide (min d.py.depth e.py.depth ≤ 40)
def dEq (d e : D) : Option D := if cmpOk d e then some (.bl (eqD d e)) else none
def dNe (d e : D) : Option D := if cmpOk d e then some (.bl (!eqD d e)) else none
theorem op_eqP : OpR X (compareOp .Eq) (fun x y H Q => ∃ d e, Dp X.K H x d ∧ Dp X.K H y e ∧ d.plain = true ∧ e.plain = true ∧ X.A.units + min d.depth e.depth < cLine ∧ Q (.bl (PyData.eqv d e)) H) := by
  intro pins s st H x y v u Q I rx ry h
  obtain ⟨d, e, hd, he, sd, se, hu, q⟩ := h
  obtain ⟨as, r1⟩ := Dp.reads I d x v hd rx
  obtain ⟨bs, r2⟩ := Dp.reads I e y u he ry
  exact SeqAt.eq_plain r1 r2 sd se hu ⟨.bl _, H, I, rfl, q⟩
theorem op_neP : OpR X (compareOp .NotEq) (fun x y H Q => ∃ d e, Dp X.K H x d ∧ Dp X.K H y e ∧ d.plain = true ∧ e.plain = true ∧ X.A.units + min d.depth e.depth < cLine ∧ Q (.bl (!PyData.eqv d e)) H) := by
  intro pins s st H x y v u Q I rx ry h
  obtain ⟨d, e, hd, he, sd, se, hu, q⟩ := h
  obtain ⟨as, r1⟩ := Dp.reads I d x v hd rx
  obtain ⟨bs, r2⟩ := Dp.reads I e y u he ry
  exact SeqAt.ne_plain r1 r2 sd se hu ⟨.bl _, H, I, rfl, q⟩
theorem o_eq {k : Nat} (hr : Room k X.A) : OpW X (compareOp .Eq) dEq := by
  refine ⟨_, op_eqP, fun G H x y d e z Q s rx ry q kk => ?_⟩
  unfold dEq at q
  split at q
  · rename_i c
    simp only [cmpOk, Bool.and_eq_true, decide_eq_true_eq] at c
    cases q
    refine ⟨d.py, e.py, rx.dp _ _ c.1.1, ry.dp _ _ c.1.2, D.py_plain _, D.py_plain _, ?_, kk _ _ _ (Ex.refl s) (.bl _)⟩
    have := hr.units
    omega
  · cases q
theorem o_ne {k : Nat} (hr : Room k X.A) : OpW X (compareOp .NotEq) dNe := by
  refine ⟨_, op_neP, fun G H x y d e z Q s rx ry q kk => ?_⟩
  unfold dNe at q
  split at q
  · rename_i c
    simp only [cmpOk, Bool.and_eq_true, decide_eq_true_eq] at c
    cases q
    refine ⟨d.py, e.py, rx.dp _ _ c.1.1, ry.dp _ _ c.1.2, D.py_plain _, D.py_plain _, ?_, kk _ _ _ (Ex.refl s) (.bl _)⟩
    have := hr.units
    omega
  · cases q
def dIs : D → D → Option D
  | .non, .non => some (.bl true)
  | _, .non => some (.bl false)
  | _, _ => none
def dIsNot : D → D → Option D
  | .non, .non => some (.bl false)
  | _, .non => some (.bl true)
  | _, _ => none
theorem rp_non {K : PySem.W.Frag} {H : Hp} {v : V} {d : D} (h : Rp K H v d) (n : d ≠ .non) : v ≠ .non := by
  cases h <;> first | exact absurd rfl n | exact fun z => nomatch z
theorem o_is : OpW X (compareOp .Is) dIs := by
  refine ⟨_, op_isN, fun G H x y d e z Q s rx ry q k => ?_⟩
  unfold dIs at q
  split at q
  · cases rx; cases ry; cases q
    exact ⟨rfl, k _ _ _ (Ex.refl s) (.bl _)⟩
  · rename_i n
    cases ry; cases q
    have : x ≠ .non := rp_non rx n
    exact ⟨rfl, by rw [decide_eq_false this]; exact k _ _ _ (Ex.refl s) (.bl _)⟩
  · cases q
theorem o_isnot : OpW X (compareOp .IsNot) dIsNot := by
  refine ⟨_, op_notN, fun G H x y d e z Q s rx ry q k => ?_⟩
  unfold dIsNot at q
  split at q
  · cases rx; cases ry; cases q
    exact ⟨rfl, k _ _ _ (Ex.refl s) (.bl _)⟩
  · rename_i n
    cases ry; cases q
    have : x ≠ .non := rp_non rx n
    exact ⟨rfl, by rw [decide_eq_false this]; exact k _ _ _ (Ex.refl s) (.bl _)⟩
  · cases q
/-! ### in -/
def inOk (d : D) (ds : List D) : Bool := d.plain && D.plainL ds && decide (min (PyData.depthAll (D.pyL ds)) d.py.depth ≤ 40)
def inD (d : D) (ds : List D) : Bool := ds.any fun z => eqD z d
def dIn : D → D → Option D
  | d, .lst ds => if inOk d ds then some (.bl (inD d ds)) else none
  | d, .tup ds => if inOk d ds then some (.bl (inD d ds)) else none
  | k, .dic t kvs => (dGet (.dic t kvs) k).map fun o => .bl o.isSome
  | _, _ => none
def dNotIn : D → D → Option D
  | d, .lst ds => if inOk d ds then some (.bl (!inD d ds)) else none
  | d, .tup ds => if inOk d ds then some (.bl (!inD d ds)) else none
  | k, .dic t kvs => (dGet (.dic t kvs) k).map fun o => .bl (!o.isSome)
  | _, _ => none
theorem any_py (d : D) : ∀ ds : List D, ((D.pyL ds).any fun y => PyData.eqv y d.py) = inD d ds
  | [] => rfl
  | e :: ds => by
    show (PyData.eqv e.py d.py || (D.pyL ds).any _) = (eqD e d || inD d ds)
    rw [any_py d ds]; rfl
theorem op_inL : OpR X (compareOp .In) (fun x y H Q => ∃ (d : PyData) (xs : List PyData), Dp X.K H x d ∧ (Dp X.K H y (.list xs) ∨ Dp X.K H y (.tuple xs)) ∧ d.plain = true ∧ PyData.plainAll xs = true ∧ X.A.units + 1 + min (PyData.depthAll xs) d.depth < cLine ∧
    Q (.bl (xs.any fun y => PyData.eqv y d)) H) := by
  intro pins s st H x y v u Q I rx ry h
  obtain ⟨d, xs, hd, he, sd, se, hu, q⟩ := h
  obtain ⟨as, r1⟩ := Dp.reads I d x v hd rx
  rcases he with he | he
  · obtain ⟨bs, r2⟩ := Dp.reads I _ y u he ry
    exact SeqAt.in_list_data r2 r1 se sd hu ⟨.bl _, H, I, rfl, q⟩
  · obtain ⟨bs, r2⟩ := Dp.reads I _ y u he ry
    exact SeqAt.in_tuple_data r2 r1 se sd hu ⟨.bl _, H, I, rfl, q⟩
theorem op_notInL : OpR X (compareOp .NotIn) (fun x y H Q => ∃ (d : PyData) (xs : List PyData), Dp X.K H x d ∧ (Dp X.K H y (.list xs) ∨ Dp X.K H y (.tuple xs)) ∧ d.plain = true ∧ PyData.plainAll xs = true ∧ X.A.units + 1 + min (PyData.depthAll xs) d.depth < cLine ∧
    Q (.bl (!xs.any fun y => PyData.eqv y d)) H) := by
  intro pins s st H x y v u Q I rx ry h
  obtain ⟨d, xs, hd, he, sd, se, hu, q⟩ := h
  obtain ⟨as, r1⟩ := Dp.reads I d x v hd rx
  rcases he with he | he
  · obtain ⟨bs, r2⟩ := Dp.reads I _ y u he ry
    exact SeqAt.notIn_list_data r2 r1 se sd hu ⟨.bl _, H, I, rfl, q⟩
  · obtain ⟨bs, r2⟩ := Dp.reads I _ y u he ry
    exact SeqAt.notIn_tuple_data r2 r1 se sd hu ⟨.bl _, H, I, rfl, q⟩
theorem op_inD' (hu : X.A.units + 1 < cLine) : OpR X (compareOp .In) (fun y x H Q => ∃ a o, x = .ref a ∧ DGet H a y o ∧ Q (.bl o.isSome) H) := by
  intro pins s st H y x iv u Q I ry rx h
  obtain ⟨a, o, ex, g, q⟩ := h
  subst ex
  obtain rfl : u = Value.ref a := rx
  exact d_in hu I g ry fun s3 I3 => ⟨.bl o.isSome, H, I3, rfl, q⟩
theorem op_notInD' (hu : X.A.units + 1 < cLine) : OpR X (compareOp .NotIn) (fun y x H Q => ∃ a o, x = .ref a ∧ DGet H a y o ∧ Q (.bl (!o.isSome)) H) := by
  intro pins s st H y x iv u Q I ry rx h
  obtain ⟨a, o, ex, g, q⟩ := h
  subst ex
  obtain rfl : u = Value.ref a := rx
  exact d_notIn hu I g ry fun s3 I3 => ⟨.bl (!o.isSome), H, I3, rfl, q⟩
theorem o_in {k : Nat} (hr : Room k X.A) : OpW X (compareOp .In) dIn := by
  refine ⟨_, op_inL.or (op_inD' (hu_of hr)), fun G H x y d e z Q s rx ry q kk => ?_⟩
  have hun := hr.units
  unfold dIn at q
  split at q
  · rename_i ds
    split at q
    · rename_i c
      simp only [inOk, Bool.and_eq_true, decide_eq_true_eq] at c
      cases q
      refine .inl ⟨d.py, D.pyL ds, rx.dp _ _ c.1.1, .inl (ry.dp (.lst ds) _ c.1.2), D.py_plain _, D.pyL_plain _, by omega, ?_⟩
      rw [any_py]
      exact kk _ _ _ (Ex.refl s) (.bl _)
    · cases q
  · rename_i ds
    split at q
    · rename_i c
      simp only [inOk, Bool.and_eq_true, decide_eq_true_eq] at c
      cases q
      refine .inl ⟨d.py, D.pyL ds, rx.dp _ _ c.1.1, .inr (ry.dp (.tup ds) _ c.1.2), D.py_plain _, D.pyL_plain _, by omega, ?_⟩
      rw [any_py]
      exact kk _ _ _ (Ex.refl s) (.bl _)
    · cases q
  · obtain ⟨o, e1, e2⟩ := Option.map_eq_some_iff.mp q
    subst e2
    obtain ⟨a, u, ea, g, r⟩ := dGet_ok ry rx e1
    exact .inr ⟨a, u, ea, g, by rw [r.isSome]; exact kk _ _ _ (Ex.refl s) (.bl _)⟩
  · cases q
theorem o_notin {k : Nat} (hr : Room k X.A) : OpW X (compareOp .NotIn) dNotIn := by
  refine ⟨_, op_notInL.or (op_notInD' (hu_of hr)), fun G H x y d e z Q s rx ry q kk => ?_⟩
  have hun := hr.units
  unfold dNotIn at q
  split at q
  · rename_i ds
    split at q
    · rename_i c
      simp only [inOk, Bool.and_eq_true, decide_eq_true_eq] at c
      cases q
      refine .inl ⟨d.py, D.pyL ds, rx.dp _ _ c.1.1, .inl (ry.dp (.lst ds) _ c.1.2), D.py_plain _, D.pyL_plain _, by omega, ?_⟩
      rw [any_py]
      exact kk _ _ _ (Ex.refl s) (.bl _)
    · cases q
  · rename_i ds
    split at q
    · rename_i c
      simp only [inOk, Bool.and_eq_true, decide_eq_true_eq] at c
      cases q
      refine .inl ⟨d.py, D.pyL ds, rx.dp _ _ c.1.1, .inr (ry.dp (.tup ds) _ c.1.2), D.py_plain _, D.pyL_plain _, by omega, ?_⟩
      rw [any_py]
      exact kk _ _ _ (Ex.refl s) (.bl _)
    · cases q
  · obtain ⟨o, e1, e2⟩ := Option.map_eq_some_iff.mp q
    subst e2
    obtain ⟨a, u, ea, g, r⟩ := dGet_ok ry rx e1
    exact .inr ⟨a, u, ea, g, by rw [r.isSome]; exact kk _ _ _ (Ex.refl s) (.bl _)⟩
  · cases q

/-! ### subscripts -/
def dIx : D → D → Option D
  | .lst xs, .int i => atI xs i
  | .tup xs, .int i => atI xs i
  | .dic t kvs, k => (dGet (.dic t kvs) k).join
  | _, _ => none
theorem RpL.at {K : PySem.W.Frag} {H : Hp} {vs : List V} {ds : List D} {i : Int} {d : D} (h : RpL K H vs ds) (e : atI ds i = some d) : ∃ v, atI vs i = some v ∧ Rp K H v d := by
  unfold atI at e ⊢
  rw [h.length]
  obtain ⟨j, e1, e2⟩ := Option.bind_eq_some_iff.mp e
  obtain ⟨v, h1, h2⟩ := h.get e2
  exact ⟨v, by rw [e1]; exact h1, h2⟩
theorem ix_ok {K : PySem.W.Frag} {B H : Hp} {x y : V} {c i z : D} {Q : VK} (s : Same B H) (rx : Rp K B x c) (ry : Rp K H y i) (ry' : ∀ t kvs, c = .dic t kvs → Rp K B y i) (q : dIx c i = some z) (k : ∀ v, Rp K B v z → Q v H) :
    rIxL K x y H Q ∨ rIxT K x y H Q ∨ ∃ a v, x = .ref a ∧ DGet H a y (some v) ∧ Q v H := by
  unfold dIx at q
  split at q
  · cases ry
    cases rx with
    | lst h l =>
      obtain ⟨v, e, r⟩ := l.at q
      exact .inl ⟨_, _, _, v, rfl, rfl, SqL.of (s _ _ h), e, k v r⟩
  · cases ry
    cases rx with
    | tup h l =>
      obtain ⟨v, e, r⟩ := l.at q
      exact .inr (.inl ⟨_, _, _, v, rfl, rfl, SqT.of (s _ _ h), e, k v r⟩)
  · rename_i t kvs
    obtain ⟨o, e1, e2⟩ := Option.join_eq_some_iff.mp q |> fun h => (⟨_, h, rfl⟩ : ∃ o, dGet (.dic t kvs) i = some o ∧ o = some z)
    subst e2
    obtain ⟨a, u, ea, g, r⟩ := dGet_ok rx (ry' _ _ rfl) e1
    cases r with
    | some r =>
      refine .inr (.inr ⟨a, _, ea, ?_, k _ r⟩)
      rcases g with ⟨kvs', kk, h1, h2, h3⟩ | ⟨kvs', kk, b, h1, h2, h3, h4⟩
      · exact .inl ⟨kvs', kk, rd_mono s h1, h2, h3⟩
      · exact .inr ⟨kvs', kk, b, rd_mono s h1, h2, s _ _ h3, h4⟩
  · cases q
/-- three ways to go on, told behind the parts -/
theorem pe_sub {a b : Expr} {ta tb : TE} {pos : Pos} (hu : X.A.units + 1 < cLine) (ha : PE X a ta) (hb : PE X b tb) (hs : PlainIx b) :
    PE X (.Subscript a b pos) (tOp (fun x y H Q => rIxL X.K x y H Q ∨ rIxT X.K x y H Q ∨ ∃ a v, x = .ref a ∧ DGet H a y (some v) ∧ Q v H) ta tb) := by
  refine ⟨fun pins s st H Q I h => ?_⟩
  refine Subscript_ (binT ha hb I h fun v u s2 x y H2 I2 rx ry q => ?_)
  rcases q with q | q | ⟨a, w, ex, g, q⟩
  · exact ix_list a b pins s2 st H2 x y v u Q I2 rx ry q (hs _ _)
  · exact ix_tup a b pins s2 st H2 x y v u Q I2 rx ry q (hs _ _)
  · subst ex
    obtain rfl : v = Value.ref a := rx
    have hT := dict_typeIs I2 g
    exact tail_any hT PySem.F.slot_dict_getitem.lookup (d_getItem hu I2 g ry fun w' s3 I3 rw' => ⟨w, H2, I3, rw', q⟩) (hs _ _)
end
end VL

set_option Elab.async false
set_option linter.all false
set_option maxRecDepth 100000
/-! VL4: subscripts, slices, calls of built-ins, walks, comprehensions. -/
namespace VL
open PySem PySem.Spec PyProof.Rows L2
section
variable {X : Cx} {a b c e : Expr} {pos : Pos} {fa fb fc : VL.Env → Option D}
theorem v_ix {k : Nat} (hr : Room k X.A) (ha : PV X a fa) (hb : PV X b fb) (hs : PlainIx b := by intro _ _; rfl) : PV X (.Subscript a b pos) (b2 fa fb dIx) := by
  obtain ⟨ta, tb, pa, pb, q⟩ := twoF (r := fun x y H Q => rIxL X.K x y H Q ∨ rIxT X.K x y H Q ∨ ∃ a v, x = .ref a ∧ DGet H a y (some v) ∧ Q v H) (g := dIx) ha hb
    fun G H x y d e z Q s rx ry q kk => ix_ok s rx (ry.up s) (fun _ _ _ => ry) q fun v r => kk v G H (Ex.refl s) r
  exact ⟨_, pe_sub (hu_of hr) pa pb hs, q⟩
/-- the index as it stands (a number) -/
theorem v_ixW {k : Nat} (hr : Room k X.A) (ha : PW X a fa) (hb : PW X b fb) (hs : PlainIx b := by intro _ _; rfl) : PW X (.Subscript a b pos) (b2 fa fb dIx) := by
  obtain ⟨ta, pa, oa⟩ := ha.ex
  obtain ⟨tb, pb, ob⟩ := hb.ex
  refine ⟨_, pe_sub (hu_of hr) pa pb hs, fun G H st env F Q d re e k => ?_⟩
  simp only [b2] at e
  obtain ⟨x, e1, e⟩ := Option.bind_eq_some_iff.mp e
  obtain ⟨y, e2, e⟩ := Option.bind_eq_some_iff.mp e
  refine oa G H st env F _ x re e1 fun v1 G1 H1 x1 r1 => ob G1 H1 st env F _ y (re.ext x1) e2 fun v2 G2 H2 x2 r2 => ?_
  exact ix_ok (Same.refl H2) (r1.up x2.hh) r2 (fun _ _ _ => r2) e fun v r => k v G2 H2 (x1.trans x2) r
def scal : D → Option D
  | .non => some .non
  | .bl b => some (.bl b)
  | .int i => some (.int i)
  | .str x => some (.str x)
  | _ => none
/-- a plain value needs no freezing -/
theorem PW.sc (h : PW X a fa) : PV X a (fun env => (fa env).bind scal) := by
  obtain ⟨t, p, o⟩ := h.ex
  refine ⟨t, p, fun G H st env F Q d re e k => ?_⟩
  obtain ⟨x, e1, e2⟩ := Option.bind_eq_some_iff.mp e
  refine o G H st env F Q x re e1 fun v G' H' x1 r => k v G' H' x1 ?_
  cases r <;> first | (cases e2; constructor) | cases e2
/-- a frozen item of an owned list -/
def frzOf : S → Option D
  | .fz d => some d
  | _ => none
@[simp] theorem frzOf_fz (d : D) : frzOf (.fz d) = some d := rfl
def itemF : S → D → Option D
  | .ol xs, .int k => (atI xs k).bind frzOf
  | _, _ => none
theorem itemF_some {s : S} {d z : D} (h : itemF s d = some z) : ∃ xs k, s = .ol xs ∧ d = .int k ∧ atI xs k = some (.fz z) := by
  cases s <;> try (cases h; done)
  cases d <;> try (cases h; done)
  rename_i xs k
  obtain ⟨u, h1, h2⟩ := Option.bind_eq_some_iff.mp (show (atI xs k).bind frzOf = some z from h)
  cases u <;> try (cases h2; done)
  cases h2
  exact ⟨_, _, rfl, rfl, h1⟩
@[simp] def getI (i : Nat) (fb : VL.Env → Option D) : VL.Env → Option D := fun env => (getS env i).bind fun s => (fb env).bind fun d => itemF s d
theorem SlRs.get {K : PySem.W.Frag} {G H : Hp} : ∀ {vs : List V} {xs : List S} {F : List Addr} {i : Nat} {s : S}, SlRs K G H vs xs F → xs[i]? = some s → ∃ v F', vs[i]? = some v ∧ SlR K G H v s F' ∧ ∀ a ∈ F', a ∈ F
  | _, _, _, _, _, .nil, e => by simp at e
  | _, _, _, 0, _, .cons r _, e => by simp at e; subst e; exact ⟨_, _, rfl, r, fun a m => List.mem_append_left _ m⟩
  | _, _, _, i + 1, _, .cons _ t, e => by
    obtain ⟨u, F', h1, h2, h3⟩ := SlRs.get (i := i) t (by simpa using e)
    exact ⟨u, F', by simpa using h1, h2, fun a m => List.mem_append_right _ (h3 a m)⟩
theorem SlRs.length {K : PySem.W.Frag} {G H : Hp} : ∀ {vs : List V} {xs : List S} {F : List Addr}, SlRs K G H vs xs F → vs.length = xs.length
  | _, _, _, .nil => rfl
  | _, _, _, .cons _ t => by rw [List.length_cons, List.length_cons, SlRs.length t]
theorem v_ixO (i : Nat) {k : Nat} {x : Str} {xpos : Pos} (hr : Room k X.A) (hb : PV X b fb) (hs : PlainIx b := by intro _ _; rfl) (hN : X.N[i]? = some x := by rfl) (hv : Vis X.env.scope x := by first | exact Or.inl rfl | exact Or.inr (Or.inl rfl) | exact Or.inr (Or.inr rfl))
    (hd : (x == ("__debug__" : Str)) = false := by decide) (hcd : (x == ("__classdict__" : Str)) = false := by decide) : PV X (.Subscript (.Name x xpos) b pos) (getI i fb) := by
  obtain ⟨tb, pb, ob⟩ := hb.ex
  refine ⟨_, pe_sub (hu_of hr) (pe_var hN hv hd hcd) pb hs, fun G H st env F Q d re e k => ?_⟩
  simp only [getI] at e
  obtain ⟨s, e1, e⟩ := Option.bind_eq_some_iff.mp e
  obtain ⟨y, e2, e⟩ := Option.bind_eq_some_iff.mp e
  obtain ⟨xs, j, rfl, rfl, e3⟩ := itemF_some e
  obtain ⟨v, h1, h2⟩ := re.slot i _ (getS_some e1)
  refine ⟨v, h1, ob G H st env F _ _ re e2 fun v2 G2 H2 x2 r2 => ?_⟩
  cases r2
  obtain ⟨v', h1', h3⟩ := (re.ext x2).slot i _ (getS_some e1)
  rw [h1] at h1'
  cases h1'
  generalize F i = Fi at h3
  cases h3 with
  | ol g1 g2 =>
    unfold atI at e3
    obtain ⟨m, m1, m2⟩ := Option.bind_eq_some_iff.mp e3
    obtain ⟨w, F', w1, w2, _⟩ := g2.get m2
    cases w2 with
    | fz r => exact .inl ⟨_, _, _, w, rfl, rfl, SqL.of g1, by unfold atI; rw [g2.length, m1]; exact w1, k w G2 H2 x2 r⟩

/-! ### slices -/
structure SP1 (X : Cx) (e : Option Expr) (f : VL.Env → Option (Option Int)) : Prop where
  ex : ∃ t, L2.PO X e t ∧ ∀ (G H : Hp) (st : L2.St) (env : VL.Env) (F : Nat → List Addr) (Q : Option Int → Hp → Prop) (o : Option Int), ER X.K G H st env F → f env = some o →
    (∀ G' H', Ex G H G' H' → Q o H') → t st H Q
theorem s_none : SP1 X none (fun _ => some none) := ⟨_, po_none, fun G H st env F Q o re e k => by cases e; exact k G H (Ex.refl re.sub)⟩
def intOf : D → Option Int
  | .int i => some i
  | _ => none
@[simp] theorem intOf_int (i : Int) : intOf (.int i) = some i := rfl
theorem intOf_some {d : D} {i : Int} (h : intOf d = some i) : d = .int i := by
  cases d <;> first | (cases h; rfl) | cases h
theorem s_some (h : PW X e fa) : SP1 X (some e) (fun env => ((fa env).bind intOf).map some) := by
  obtain ⟨t, p, o⟩ := h.ex
  refine ⟨_, po_some p, fun G H st env F Q z re e k => ?_⟩
  obtain ⟨i, e1, e2⟩ := Option.map_eq_some_iff.mp e
  subst e2
  obtain ⟨d, e3, e4⟩ := Option.bind_eq_some_iff.mp e1
  obtain rfl := intOf_some e4
  refine o G H st env F _ _ re e3 fun v G' H' x1 r => ?_
  cases r
  exact ⟨i, rfl, k G' H' x1⟩
def cutD {α : Type} (xs : List α) (lo hi : Option Int) : List α := (xs.drop (HT.sIx xs.length 0 lo)).take (HT.sIx xs.length xs.length hi - HT.sIx xs.length 0 lo)
theorem RpL.cut {K : PySem.W.Frag} {H : Hp} {vs : List V} {ds : List D} (h : RpL K H vs ds) (lo hi : Option Int) : RpL K H (cutV vs lo hi) (cutD ds lo hi) := by
  unfold cutV cutD
  rw [h.length]
  exact (h.drop _).take _
def lstOf : D → Option (List D)
  | .lst xs => some xs
  | _ => none
@[simp] theorem lstOf_lst (xs : List D) : lstOf (.lst xs) = some xs := rfl
theorem lstOf_some {d : D} {xs : List D} (h : lstOf d = some xs) : d = .lst xs := by
  cases d <;> first | (cases h; rfl) | cases h
theorem l_slice {lo hi : Option Expr} {p2 : Pos} {fl fh : VL.Env → Option (Option Int)} (ha : PV X a fa) (hl : SP1 X lo fl) (hh : SP1 X hi fh) :
    PL X (.Subscript a (.Slice lo hi none p2) pos) (fun env => (fa env).bind fun d => (lstOf d).bind fun xs => (fl env).bind fun l => (fh env).bind fun h => some (cutD xs l h)) := by
  obtain ⟨t, p, o⟩ := ha.ex
  obtain ⟨tl, pl, ol⟩ := hl.ex
  obtain ⟨th, ph, oh⟩ := hh.ex
  refine ⟨_, pe_slice sl_list p pl ph, fun G H st env F Q ds re e k => ?_⟩
  obtain ⟨d, e1, e⟩ := Option.bind_eq_some_iff.mp e
  obtain ⟨xs, e2, e⟩ := Option.bind_eq_some_iff.mp e
  obtain ⟨l, e3, e⟩ := Option.bind_eq_some_iff.mp e
  obtain ⟨h, e4, e⟩ := Option.bind_eq_some_iff.mp e
  cases e
  obtain rfl := lstOf_some e2
  refine o G H st env F _ _ re e1 fun v G1 H1 x1 r1 => ol G1 H1 st env F _ _ (re.ext x1) e3 fun G2 H2 x2 => oh G2 H2 st env F _ _ ((re.ext x1).ext x2) e4 fun G3 H3 x3 => ?_
  have x123 := (x1.trans x2).trans x3
  cases r1 with
  | lst h1 l1 =>
    refine ⟨_, _, rfl, SqL.of (x3.hh _ _ (x2.hh _ _ (x1.gh _ _ h1))), fun p np => ?_⟩
    exact k p _ G3 _ (x123.trans (Ex.own x123.gh np)) (x123.hh.free np) (x123.gh.free np) upd_same ((l1.cut l h).up (x2.gg.trans x3.gg))

/-! ### calls of built-ins -/
def CallW (X : Cx) (f : Value) (g : List D → Option D) : Prop :=
  ∃ r : List V → Hp → VK → Prop, CallR X f r ∧ ∀ (G H : Hp) (vs : List V) (ds : List D) (z : D) (Q : VK), Same G H → RpL X.K H vs ds → g ds = some z → (∀ v G' H', Ex G H G' H' → Rp X.K G' v z → Q v H') → r vs H Q
def CallL (X : Cx) (f : Value) (g : List D → Option (List D)) : Prop :=
  ∃ r : List V → Hp → VK → Prop, CallR X f r ∧ ∀ (G H : Hp) (vs : List V) (ds : List D) (z : List D) (Q : VK), Same G H → RpL X.K G vs ds → g ds = some z →
    (∀ p us G' H', Ex G H G' H' → H p = none → G' p = none → H' p = some (.lst us) → RpL X.K G' us z → Q (.ref p) H') → r vs H Q
@[simp] def cB (fs : VL.Env → Option (List D)) (g : List D → Option D) : VL.Env → Option D := fun env => (fs env).bind g
@[simp] def cL (fs : VL.Env → Option (List D)) (g : List D → Option (List D)) : VL.Env → Option (List D) := fun env => (fs env).bind g
variable {x : Str} {p : Pos} {id : String} {es : List Expr} {fs : VL.Env → Option (List D)}
theorem v_callB {g : List D → Option D} (hc : CallW X (.builtin id) g) (hg : Gl X x) (hm : X.mg x = none) (hv : bootBuiltins x = some (.builtin id)) (ha : AW X (e :: es) fs) (hn : x ≠ "__name__" := by decide) (hdb : (x == ("__debug__" : Str)) = false := by decide)
    (he : starEach (e :: es) X.env = (false, eval e X.env) :: starEach es X.env := by rfl) (hpl : (backTo pos (starEach es X.env)).any (·.1) = false := by rfl) : PV X (.Call (.Name x p) (e :: es) [] pos) (cB fs g) := by
  obtain ⟨r, hr, o⟩ := hc
  obtain ⟨t, pa, oa⟩ := ha.ex
  refine ⟨_, pe_callB hr hg hm hv pa hn hdb he hpl, fun G H st env F Q d re e k => ?_⟩
  obtain ⟨ds, e1, e2⟩ := Option.bind_eq_some_iff.mp e
  exact oa G H st env F _ _ re e1 fun vs G1 H1 x1 r1 => o G1 H1 vs ds d Q x1.gh r1 e2 fun v G' H' x2 r2 => k v G' H' (x1.trans x2) r2
theorem v_callT {g : List D → Option D} (hc : CallW X (.type id) g) (hg : Gl X x) (hm : X.mg x = none) (hv : bootBuiltins x = some (.type id)) (ha : AW X (e :: es) fs) (hn : x ≠ "__name__" := by decide) (hdb : (x == ("__debug__" : Str)) = false := by decide)
    (he : starEach (e :: es) X.env = (false, eval e X.env) :: starEach es X.env := by rfl) (hpl : (backTo pos (starEach es X.env)).any (·.1) = false := by rfl) : PV X (.Call (.Name x p) (e :: es) [] pos) (cB fs g) := by
  obtain ⟨r, hr, o⟩ := hc
  obtain ⟨t, pa, oa⟩ := ha.ex
  refine ⟨_, pe_callTy hr hg hm hv pa hn hdb he hpl, fun G H st env F Q d re e k => ?_⟩
  obtain ⟨ds, e1, e2⟩ := Option.bind_eq_some_iff.mp e
  exact oa G H st env F _ _ re e1 fun vs G1 H1 x1 r1 => o G1 H1 vs ds d Q x1.gh r1 e2 fun v G' H' x2 r2 => k v G' H' (x1.trans x2) r2
theorem l_callB {g : List D → Option (List D)} (hc : CallL X (.builtin id) g) (hg : Gl X x) (hm : X.mg x = none) (hv : bootBuiltins x = some (.builtin id)) (ha : AV X (e :: es) fs) (hn : x ≠ "__name__" := by decide) (hdb : (x == ("__debug__" : Str)) = false := by decide)
    (he : starEach (e :: es) X.env = (false, eval e X.env) :: starEach es X.env := by rfl) (hpl : (backTo pos (starEach es X.env)).any (·.1) = false := by rfl) : PL X (.Call (.Name x p) (e :: es) [] pos) (cL fs g) := by
  obtain ⟨r, hr, o⟩ := hc
  obtain ⟨t, pa, oa⟩ := ha.ex
  refine ⟨_, pe_callB hr hg hm hv pa hn hdb he hpl, fun G H st env F Q d re e k => ?_⟩
  obtain ⟨ds, e1, e2⟩ := Option.bind_eq_some_iff.mp e
  exact oa G H st env F _ _ re e1 fun vs G1 H1 x1 r1 => o G1 H1 vs ds d Q x1.gh r1 e2 fun p us G' H' x2 n1 n2 h r2 => k p us G' H' (x1.trans x2) (x1.hh.free n1) n2 h r2
theorem l_callT {g : List D → Option (List D)} (hc : CallL X (.type id) g) (hg : Gl X x) (hm : X.mg x = none) (hv : bootBuiltins x = some (.type id)) (ha : AV X (e :: es) fs) (hn : x ≠ "__name__" := by decide) (hdb : (x == ("__debug__" : Str)) = false := by decide)
    (he : starEach (e :: es) X.env = (false, eval e X.env) :: starEach es X.env := by rfl) (hpl : (backTo pos (starEach es X.env)).any (·.1) = false := by rfl) : PL X (.Call (.Name x p) (e :: es) [] pos) (cL fs g) := by
  obtain ⟨r, hr, o⟩ := hc
  obtain ⟨t, pa, oa⟩ := ha.ex
  refine ⟨_, pe_callTy hr hg hm hv pa hn hdb he hpl, fun G H st env F Q d re e k => ?_⟩
  obtain ⟨ds, e1, e2⟩ := Option.bind_eq_some_iff.mp e
  exact oa G H st env F _ _ re e1 fun vs G1 H1 x1 r1 => o G1 H1 vs ds d Q x1.gh r1 e2 fun p us G' H' x2 n1 n2 h r2 => k p us G' H' (x1.trans x2) (x1.hh.free n1) n2 h r2
def intsOf : List D → Option (List Int)
  | [] => some []
  | d :: ds => (intOf d).bind fun i => (intsOf ds).map (i :: ·)
@[simp] theorem intsOf_map : ∀ ns : List Int, intsOf (ns.map D.int) = some ns
  | [] => rfl
  | n :: ns => by
    show (intOf (.int n)).bind _ = _
    rw [intsOf_map ns]; rfl
theorem intsOf_some : ∀ {ds : List D} {ns : List Int}, intsOf ds = some ns → ds = ns.map D.int
  | [], _, h => by cases h; rfl
  | d :: ds, _, h => by
    obtain ⟨i, h1, h2⟩ := Option.bind_eq_some_iff.mp (show (intOf d).bind _ = _ from h)
    obtain ⟨ns, h3, h4⟩ := Option.map_eq_some_iff.mp h2
    subst h4
    rw [intOf_some h1, intsOf_some h3]; rfl
def blsOf : List D → Option (List Bool)
  | [] => some []
  | d :: ds => (bOf d).bind fun i => (blsOf ds).map (i :: ·)
@[simp] theorem blsOf_map : ∀ ns : List Bool, blsOf (ns.map D.bl) = some ns
  | [] => rfl
  | n :: ns => by
    show (bOf (.bl n)).bind _ = _
    rw [blsOf_map ns]; rfl
theorem blsOf_some : ∀ {ds : List D} {ns : List Bool}, blsOf ds = some ns → ds = ns.map D.bl
  | [], _, h => by cases h; rfl
  | d :: ds, _, h => by
    obtain ⟨i, h1, h2⟩ := Option.bind_eq_some_iff.mp (show (bOf d).bind _ = _ from h)
    obtain ⟨ns, h3, h4⟩ := Option.map_eq_some_iff.mp h2
    subst h4
    rw [bOf_some h1, blsOf_some h3]; rfl
def dLen : List D → Option D
  | [.lst xs] => some (.int xs.length)
  | [.tup xs] => some (.int xs.length)
  | [.str x] => if x.length ≤ sizeLine then some (.int x.length) else none
  | _ => none
theorem c_len : CallW X (.builtin "len") dLen := by
  refine ⟨_, call_len, fun G H vs ds z Q s r q k => ?_⟩
  unfold dLen at q
  split at q
  · cases q
    cases r with
    | cons r1 r2 =>
      cases r2
      cases r1 with
      | lst h l => exact ⟨_, _, rfl, .inl ⟨_, SqL.of h, rfl⟩, by rw [l.length]; exact k _ _ _ (Ex.refl s) (.int _)⟩
  · cases q
    cases r with
    | cons r1 r2 =>
      cases r2
      cases r1 with
      | tup h l => exact ⟨_, _, rfl, .inr ⟨_, SqT.of h, rfl⟩, by rw [l.length]; exact k _ _ _ (Ex.refl s) (.int _)⟩
  · split at q
    · rename_i hl
      cases q
      cases r with
      | cons r1 r2 =>
        cases r2
        cases r1
        exact ⟨_, _, rfl, ⟨hl, rfl⟩, k _ _ _ (Ex.refl s) (.int _)⟩
    · cases q
  · cases q
def dSum : List D → Option D
  | [.lst xs] => (intsOf xs).map fun ns => .int ns.sum
  | _ => none
theorem c_sum (hc : X.calm = true) : CallW X (.builtin "sum") dSum := by
  refine ⟨_, cr_sum hc, fun G H vs ds z Q s r q k => ?_⟩
  unfold dSum at q
  split at q
  · obtain ⟨ns, e1, e2⟩ := Option.map_eq_some_iff.mp q
    subst e2
    obtain rfl := intsOf_some e1
    cases r with
    | cons r1 r2 =>
      cases r2
      cases r1 with
      | lst h l =>
        rw [l.ints] at h
        exact ⟨_, ns, rfl, SqL.of h, k _ _ _ (Ex.refl s) (.int _)⟩
  · cases q
def dAny : List D → Option D
  | [.lst xs] => (blsOf xs).map fun ns => .bl (ns.any _root_.id)
  | _ => none
def dAll : List D → Option D
  | [.lst xs] => (blsOf xs).map fun ns => .bl (ns.all _root_.id)
  | _ => none
theorem c_any (hc : X.calm = true) : CallW X (.builtin "any") dAny := by
  refine ⟨_, cr_any hc, fun G H vs ds z Q s r q k => ?_⟩
  unfold dAny at q
  split at q
  · obtain ⟨ns, e1, e2⟩ := Option.map_eq_some_iff.mp q
    subst e2
    obtain rfl := blsOf_some e1
    cases r with
    | cons r1 r2 =>
      cases r2
      cases r1 with
      | lst h l =>
        rw [l.bls] at h
        exact ⟨_, ns, rfl, SqL.of h, k _ _ _ (Ex.refl s) (.bl _)⟩
  · cases q
theorem c_all (hc : X.calm = true) : CallW X (.builtin "all") dAll := by
  refine ⟨_, cr_all hc, fun G H vs ds z Q s r q k => ?_⟩
  unfold dAll at q
  split at q
  · obtain ⟨ns, e1, e2⟩ := Option.map_eq_some_iff.mp q
    subst e2
    obtain rfl := blsOf_some e1
    cases r with
    | cons r1 r2 =>
      cases r2
      cases r1 with
      | lst h l =>
        rw [l.bls] at h
        exact ⟨_, ns, rfl, SqL.of h, k _ _ _ (Ex.refl s) (.bl _)⟩
  · cases q
/-- the greatest, the least of ints -/
def maxI : List Int → Int
  | [] => 0
  | x :: xs => xs.foldl max x
def minI : List Int → Int
  | [] => 0
  | x :: xs => xs.foldl min x
theorem foldl_max_ge : ∀ (xs : List Int) (x : Int), x ≤ xs.foldl max x ∧ ∀ y ∈ xs, y ≤ xs.foldl max x
  | [], x => ⟨Int.le_refl _, fun y h => by cases h⟩
  | z :: xs, x => by
    obtain ⟨h1, h2⟩ := foldl_max_ge xs (max x z)
    refine ⟨Int.le_trans (Int.le_max_left _ _) h1, fun y h => ?_⟩
    rcases List.mem_cons.mp h with rfl | h
    · exact Int.le_trans (Int.le_max_right _ _) h1
    · exact h2 y h
theorem foldl_max_mem : ∀ (xs : List Int) (x : Int), xs.foldl max x = x ∨ xs.foldl max x ∈ xs
  | [], x => .inl rfl
  | z :: xs, x => by
    rcases foldl_max_mem xs (max x z) with h | h
    · show (xs.foldl max (max x z)) = x ∨ (xs.foldl max (max x z)) ∈ z :: xs
      rw [h]
      by_cases c : x ≤ z
      · rw [Int.max_eq_right c]; exact .inr List.mem_cons_self
      · rw [Int.max_eq_left (by omega)]; exact .inl rfl
    · exact .inr (List.mem_cons_of_mem _ h)
theorem foldl_min_le : ∀ (xs : List Int) (x : Int), xs.foldl min x ≤ x ∧ ∀ y ∈ xs, xs.foldl min x ≤ y
  | [], x => ⟨Int.le_refl _, fun y h => by cases h⟩
  | z :: xs, x => by
    obtain ⟨h1, h2⟩ := foldl_min_le xs (min x z)
    refine ⟨Int.le_trans h1 (Int.min_le_left _ _), fun y h => ?_⟩
    rcases List.mem_cons.mp h with rfl | h
    · exact Int.le_trans h1 (Int.min_le_right _ _)
    · exact h2 y h
theorem foldl_min_mem : ∀ (xs : List Int) (x : Int), xs.foldl min x = x ∨ xs.foldl min x ∈ xs
  | [], x => .inl rfl
  | z :: xs, x => by
    rcases foldl_min_mem xs (min x z) with h | h
    · show (xs.foldl min (min x z)) = x ∨ (xs.foldl min (min x z)) ∈ z :: xs
      rw [h]
      by_cases c : x ≤ z
      · rw [Int.min_eq_left c]; exact .inl rfl
      · rw [Int.min_eq_right (by omega)]; exact .inr List.mem_cons_self
    · exact .inr (List.mem_cons_of_mem _ h)
theorem maxI_mem {ns : List Int} (h : ns ≠ []) : maxI ns ∈ ns := by
  cases ns with
  | nil => exact absurd rfl h
  | cons x xs => rcases foldl_max_mem xs x with q | q; exact (show xs.foldl max x ∈ _ by rw [q]; exact List.mem_cons_self); exact List.mem_cons_of_mem _ q
theorem maxI_ge {ns : List Int} {y : Int} (h : y ∈ ns) : y ≤ maxI ns := by
  cases ns with
  | nil => cases h
  | cons x xs => rcases List.mem_cons.mp h with rfl | h; exact (foldl_max_ge xs y).1; exact (foldl_max_ge xs x).2 y h
theorem minI_mem {ns : List Int} (h : ns ≠ []) : minI ns ∈ ns := by
  cases ns with
  | nil => exact absurd rfl h
  | cons x xs => rcases foldl_min_mem xs x with q | q; exact (show xs.foldl min x ∈ _ by rw [q]; exact List.mem_cons_self); exact List.mem_cons_of_mem _ q
theorem minI_le {ns : List Int} {y : Int} (h : y ∈ ns) : minI ns ≤ y := by
  cases ns with
  | nil => cases h
  | cons x xs => rcases List.mem_cons.mp h with rfl | h; exact (foldl_min_le xs y).1; exact (foldl_min_le xs x).2 y h
def dMax : List D → Option D
  | [.lst xs] => (intsOf xs).bind fun ns => if ns = [] then none else some (.int (maxI ns))
  | [.int i, .int j] => some (.int (max i j))
  | _ => none
def dMin : List D → Option D
  | [.lst xs] => (intsOf xs).bind fun ns => if ns = [] then none else some (.int (minI ns))
  | [.int i, .int j] => some (.int (min i j))
  | _ => none
theorem c_max (hc : X.calm = true) : CallW X (.builtin "max") dMax := by
  refine ⟨_, (cr_max hc).or (call_max2 hc), fun G H vs ds z Q s r q k => ?_⟩
  unfold dMax at q
  split at q
  · obtain ⟨ns, e1, e2⟩ := Option.bind_eq_some_iff.mp q
    split at e2
    · cases e2
    · rename_i hne
      cases e2
      obtain rfl := intsOf_some e1
      cases r with
      | cons r1 r2 =>
        cases r2
        cases r1 with
        | lst h l =>
          rw [l.ints] at h
          refine .inl ⟨_, ns, rfl, SqL.of h, List.length_pos_iff.mpr hne, fun m hm hg => ?_⟩
          have : m = maxI ns := Int.le_antisymm (maxI_ge hm) (hg _ (maxI_mem hne))
          subst this
          exact k _ _ _ (Ex.refl s) (.int _)
  · cases q
    cases r with
    | cons r1 r2 =>
      cases r2 with
      | cons r2 r3 =>
        cases r3; cases r1; cases r2
        rename_i i j
        refine .inr ⟨i, j, rfl, ?_⟩
        have : (if j > i then j else i) = max i j := by split <;> omega
        rw [this]
        exact k _ _ _ (Ex.refl s) (.int _)
  · cases q
theorem c_min (hc : X.calm = true) : CallW X (.builtin "min") dMin := by
  refine ⟨_, (cr_min hc).or (call_min2 hc), fun G H vs ds z Q s r q k => ?_⟩
  unfold dMin at q
  split at q
  · obtain ⟨ns, e1, e2⟩ := Option.bind_eq_some_iff.mp q
    split at e2
    · cases e2
    · rename_i hne
      cases e2
      obtain rfl := intsOf_some e1
      cases r with
      | cons r1 r2 =>
        cases r2
        cases r1 with
        | lst h l =>
          rw [l.ints] at h
          refine .inl ⟨_, ns, rfl, SqL.of h, List.length_pos_iff.mpr hne, fun m hm hg => ?_⟩
          have : m = minI ns := Int.le_antisymm (hg _ (minI_mem hne)) (minI_le hm)
          subst this
          exact k _ _ _ (Ex.refl s) (.int _)
  · cases q
    cases r with
    | cons r1 r2 =>
      cases r2 with
      | cons r2 r3 =>
        cases r3; cases r1; cases r2
        rename_i i j
        refine .inr ⟨i, j, rfl, ?_⟩
        have : (if j < i then j else i) = min i j := by split <;> omega
        rw [this]
        exact k _ _ _ (Ex.refl s) (.int _)
  · cases q
def dAbs : List D → Option D
  | [.int i] => some (.int i.natAbs)
  | _ => none
theorem c_abs : CallW X (.builtin "abs") dAbs := by
  refine ⟨_, call_abs, fun G H vs ds z Q s r q k => ?_⟩
  unfold dAbs at q
  split at q
  · cases q
    cases r with
    | cons r1 r2 =>
      cases r2; cases r1
      rename_i i
      refine ⟨i, rfl, ?_⟩
      have : (if i < 0 then -i else i) = (i.natAbs : Int) := by split <;> omega
      rw [this]
      exact k _ _ _ (Ex.refl s) (.int _)
  · cases q
def dInt : List D → Option D
  | [.int i] => some (.int i)
  | [.bl b] => some (.int (if b then 1 else 0))
  | _ => none
theorem c_int : CallW X (.type "int") dInt := by
  refine ⟨_, call_int1, fun G H vs ds z Q s r q k => ?_⟩
  unfold dInt at q
  split at q
  · cases q
    cases r with
    | cons r1 r2 => cases r2; cases r1; exact .inl ⟨_, rfl, k _ _ _ (Ex.refl s) (.int _)⟩
  · cases q
    cases r with
    | cons r1 r2 => cases r2; cases r1; exact .inr ⟨_, rfl, k _ _ _ (Ex.refl s) (.int _)⟩
  · cases q
def dList : List D → Option (List D)
  | [.lst xs] => some xs
  | [.tup xs] => some xs
  | _ => none
theorem c_list : CallL X (.type "list") dList := by
  refine ⟨_, call_list_of, fun G H vs ds z Q s r q k => ?_⟩
  unfold dList at q
  split at q
  · cases q
    cases r with
    | cons r1 r2 =>
      cases r2
      cases r1 with
      | lst h l => exact ⟨_, _, rfl, .inl (SqL.of (s _ _ h)), fun p np => k p _ G _ (Ex.own s np) np (s.free np) upd_same l⟩
  · cases q
    cases r with
    | cons r1 r2 =>
      cases r2
      cases r1 with
      | tup h l => exact ⟨_, _, rfl, .inr (SqT.of (s _ _ h)), fun p np => k p _ G _ (Ex.own s np) np (s.free np) upd_same l⟩
  · cases q
end
end VL

set_option Elab.async false
set_option linter.all false
set_option maxRecDepth 100000
/-! VL5: targets, walks, comprehensions, calls of own defs. -/
namespace VL
open PySem PySem.Spec PyProof.Rows L2

/-! ### slots set -/
section
variable {K : PySem.W.Frag} {G H : Hp} {st : L2.St} {env : VL.Env} {F : Nat → List Addr}
def putFp (F : Nat → List Addr) (i : Nat) (l : List Addr) : Nat → List Addr := fun j => if j = i then l else F j
theorem get_set {α : Type} {l : List α} {i j : Nat} {a b : α} (h : (l.set i a)[j]? = some b) : (j = i ∧ i < l.length ∧ b = a) ∨ (j ≠ i ∧ l[j]? = some b) := by
  by_cases e : i = j
  · subst e
    by_cases hl : i < l.length
    · rw [List.getElem?_set_self hl] at h
      exact .inl ⟨rfl, hl, (Option.some.inj h).symm⟩
    · rw [List.getElem?_eq_none (by simpa using hl)] at h
      cases h
  · rw [List.getElem?_set_ne e] at h
    exact .inr ⟨fun z => e z.symm, h⟩
theorem ER.setO (r : ER K G H st env F) (i : Nat) {v : V} {s : S} {l : List Addr} (h : SlR K G H v s l) (n : l.Nodup) (off : ∀ a ∈ l, G a = none) (dj : ∀ j, j ≠ i → ∀ a ∈ l, a ∉ F j) (hi : i < env.length) :
    ER K G H (st.set i (some v)) (env.set i (some s)) (putFp F i l) := by
  refine ⟨r.sub, by rw [List.length_set, List.length_set]; exact r.len, fun j t e => ?_, fun j hj => ?_, fun j a m => ?_, fun j => ?_, fun j k a m m' => ?_⟩
  · rcases get_set e with ⟨rfl, _, e⟩ | ⟨ne, e⟩
    · cases e
      refine ⟨v, ?_, ?_⟩
      · rw [List.getElem?_set_self (by rw [← r.len]; exact hi)]
      · unfold putFp; rw [if_pos rfl]; exact h
    · obtain ⟨w, h1, h2⟩ := r.slot j t e
      refine ⟨w, by rw [List.getElem?_set_ne (Ne.symm ne)]; exact h1, ?_⟩
      unfold putFp; rw [if_neg ne]; exact h2
  · unfold putFp
    by_cases c : j = i
    · subst c
      exact absurd (List.getElem?_set_self hi) (hj s)
    · rw [if_neg c]
      exact r.out j fun t e => hj t (by rw [List.getElem?_set_ne (Ne.symm c)]; exact e)
  · unfold putFp at m
    split at m
    · exact off a m
    · exact r.off j a m
  · unfold putFp
    split
    · exact n
    · exact r.nd j
  · unfold putFp at m m'
    split at m <;> split at m'
    · rename_i c c'; rw [c, c']
    · rename_i c c'; exact absurd m' (dj k c' a m)
    · rename_i c c'; exact absurd m (dj j c a m')
    · exact r.dj j k a m m'
theorem ER.setF (r : ER K G H st env F) (i : Nat) {v : V} {d : D} (h : Rp K G v d) : ER K G H (st.set i (some v)) (env.set i (some (.fz d))) (putFp F i []) := by
  by_cases hi : i < env.length
  · exact r.setO i (.fz h) .nil (fun a m => by cases m) (fun j _ a m => by cases m) hi
  · have e1 : env.set i (some (.fz d)) = env := List.set_eq_of_length_le (by omega)
    have e2 : st.set i (some v) = st := List.set_eq_of_length_le (by rw [← r.len]; omega)
    rw [e1, e2]
    have : putFp F i [] = F := by
      funext j
      unfold putFp
      split
      · rename_i c; subst c
        exact (r.out j fun s e => by rw [List.getElem?_eq_none (by omega)] at e; cases e).symm
      · rfl
    rw [this]; exact r
/-- a slot forgotten -/
theorem ER.drop1 (r : ER K G H st env F) (i : Nat) : ER K G H (st.set i none) (env.set i none) (putFp F i []) := by
  refine ⟨r.sub, by rw [List.length_set, List.length_set]; exact r.len, fun j t e => ?_, fun j hj => ?_, fun j a m => ?_, fun j => ?_, fun j k a m m' => ?_⟩
  · rcases get_set e with ⟨rfl, _, e⟩ | ⟨ne, e⟩
    · cases e
    · obtain ⟨w, h1, h2⟩ := r.slot j t e
      refine ⟨w, by rw [List.getElem?_set_ne (Ne.symm ne)]; exact h1, ?_⟩
      unfold putFp; rw [if_neg ne]; exact h2
  · unfold putFp
    by_cases c : j = i
    · rw [if_pos c]
    · rw [if_neg c]
      exact r.out j fun t e => hj t (by rw [List.getElem?_set_ne (Ne.symm c)]; exact e)
  · unfold putFp at m
    split at m
    · cases m
    · exact r.off j a m
  · unfold putFp
    split
    · exact .nil
    · exact r.nd j
  · unfold putFp at m m'
    split at m <;> split at m'
    · cases m
    · cases m
    · cases m'
    · exact r.dj j k a m m'
/-- .. on the proof's side alone -/
theorem ER.hide (r : ER K G H st env F) (i : Nat) : ER K G H st (env.set i none) (putFp F i []) := by
  refine ⟨r.sub, by rw [List.length_set]; exact r.len, fun j t e => ?_, fun j hj => ?_, fun j a m => ?_, fun j => ?_, fun j k a m m' => ?_⟩
  · rcases get_set e with ⟨rfl, _, e⟩ | ⟨ne, e⟩
    · cases e
    · obtain ⟨w, h1, h2⟩ := r.slot j t e
      refine ⟨w, h1, ?_⟩
      unfold putFp; rw [if_neg ne]; exact h2
  · unfold putFp
    by_cases c : j = i
    · rw [if_pos c]
    · rw [if_neg c]
      exact r.out j fun t e => hj t (by rw [List.getElem?_set_ne (Ne.symm c)]; exact e)
  · unfold putFp at m
    split at m
    · cases m
    · exact r.off j a m
  · unfold putFp
    split
    · exact .nil
    · exact r.nd j
  · unfold putFp at m m'
    split at m <;> split at m'
    · cases m
    · cases m
    · cases m'
    · exact r.dj j k a m m'
theorem putFp_sub {F : Nat → List Addr} {i j : Nat} {a : Addr} (h : a ∈ putFp F i [] j) : a ∈ F j := by
  unfold putFp at h
  split at h
  · cases h
  · exact h
def wipeE (env : VL.Env) : List Nat → VL.Env
  | [] => env
  | v :: vs => (wipeE env vs).set v none
theorem ER.wipe (r : ER K G H st env F) : ∀ vs : List Nat, ∃ F', ER K G H (L2.wipe st vs) (wipeE env vs) F' ∧ ∀ i a, a ∈ F' i → a ∈ F i
  | [] => ⟨F, r, fun _ _ h => h⟩
  | v :: vs => by
    obtain ⟨F', h1, h2⟩ := ER.wipe r vs
    exact ⟨_, h1.drop1 v, fun i a m => h2 i a (putFp_sub m)⟩
end
theorem wipe_set {α : Type} {o : Option V} (st : L2.St) {i : Nat} : ∀ {vs : List Nat}, i ∈ vs → L2.wipe (st.set i o) vs = L2.wipe st vs
  | v :: vs, h => by
    show (L2.wipe (st.set i o) vs).set v none = (L2.wipe st vs).set v none
    by_cases m : i ∈ vs
    · rw [wipe_set (α := α) st m]
    · rcases List.mem_cons.mp h with rfl | h
      · clear m h
        induction vs with
        | nil => show (st.set i o).set i none = st.set i none; rw [List.set_set]
        | cons u us ih =>
          show ((L2.wipe (st.set i o) us).set u none).set i none = ((L2.wipe st us).set u none).set i none
          by_cases c : u = i
          · subst c; rw [List.set_set, List.set_set]; exact ih
          · rw [List.set_comm _ _ c, List.set_comm _ _ c, ih]
      · exact absurd h m
theorem wipe_set1 {vs : List Nat} (st : L2.St) {i : Nat} (o : Option V) (h : i ∈ vs) : L2.wipe (st.set i o) vs = L2.wipe st vs := wipe_set (α := Nat) st h
theorem wipe_idem' (st : L2.St) (ws : List Nat) : ∀ {vs : List Nat}, (∀ i ∈ vs, i ∈ ws) → L2.wipe (L2.wipe st vs) ws = L2.wipe st ws
  | [], _ => rfl
  | v :: vs, h => by
    show L2.wipe ((L2.wipe st vs).set v none) ws = _
    rw [wipe_set1 _ _ (h v List.mem_cons_self)]
    exact wipe_idem' st ws fun i m => h i (List.mem_cons_of_mem _ m)
theorem wipe_idem (st : L2.St) (vs : List Nat) : L2.wipe (L2.wipe st vs) vs = L2.wipe st vs := wipe_idem' st vs fun _ h => h

/-! ### targets: names, tuples of names -/
/-- what a store of data at a target does: the slots ts are set -/
def TgOk (K : PySem.W.Frag) (ts : List Nat) (f : D → VL.Env → Option VL.Env) (g : TG) : Prop :=
  ∀ (G H : Hp) (st : L2.St) (env : VL.Env) (F : Nat → List Addr) (v : V) (d : D) (env' : VL.Env) (Q : L2.St → Hp → Prop), ER K G H st env F → Rp K G v d → f d env = some env' →
    (∀ st' F', ER K G H st' env' F' → (∀ i a, a ∈ F' i → a ∈ F i) → (∀ vs, (∀ i ∈ ts, i ∈ vs) → L2.wipe st' vs = L2.wipe st vs) → Q st' H) → g v st H Q
structure TG1 (X : Cx) (tg : Expr) (ts : List Nat) (f : D → VL.Env → Option VL.Env) : Prop where
  ex : ∃ g, PG X tg g ∧ TgOk X.K ts f g
def TgsOk (K : PySem.W.Frag) (ts : List Nat) (f : List D → VL.Env → Option VL.Env) (g : TGs) : Prop :=
  ∀ (G H : Hp) (st : L2.St) (env : VL.Env) (F : Nat → List Addr) (vs : List V) (ds : List D) (env' : VL.Env) (Q : L2.St → Hp → Prop), ER K G H st env F → RpL K G vs ds → f ds env = some env' →
    (∀ st' F', ER K G H st' env' F' → (∀ i a, a ∈ F' i → a ∈ F i) → (∀ vs, (∀ i ∈ ts, i ∈ vs) → L2.wipe st' vs = L2.wipe st vs) → Q st' H) → g vs st H Q
structure TGn (X : Cx) (tgs : List Expr) (n : Nat) (ts : List Nat) (f : List D → VL.Env → Option VL.Env) : Prop where
  len : ∀ ds env env', f ds env = some env' → ds.length = n
  ex : ∃ g, PGs X tgs g ∧ TgsOk X.K ts f g
@[simp] def gN (i : Nat) : D → VL.Env → Option VL.Env := fun d env => some (env.set i (some (.fz d)))
@[simp] def gs0 : List D → VL.Env → Option VL.Env
  | [], env => some env
  | _, _ => none
@[simp] def gsC (f : D → VL.Env → Option VL.Env) (g : List D → VL.Env → Option VL.Env) : List D → VL.Env → Option VL.Env
  | d :: ds, env => (f d env).bind (g ds)
  | _, _ => none
@[simp] def gT (g : List D → VL.Env → Option VL.Env) : D → VL.Env → Option VL.Env
  | .tup ds, env => g ds env
  | _, _ => none
section
variable {X : Cx} {pos : Pos}
theorem g_name (i : Nat) {x : Str} (hN : X.N.Nodup) (hi : X.N[i]? = some x := by rfl) (hx : Loc X.env.scope x := by first | exact Or.inl rfl | exact Or.inr rfl)
    (hf : X.fn x = true ∨ X.env.scope.names.lookup x = some .local := by first | exact .inl rfl | exact .inr rfl) : TG1 X (.Name x pos) [i] (gN i) := by
  refine ⟨gName i, pg_name hN hi hx hf, fun G H st env F v d env' Q r rv e k => ?_⟩
  cases e
  exact k _ _ (r.setF i rv) (fun j a m => putFp_sub m) fun vs h => wipe_set1 st _ (h i List.mem_cons_self)
theorem gs_nil : TGn X [] 0 [] gs0 := by
  refine ⟨fun ds env env' e => ?_, gNil, pgs_nil, fun G H st env F vs ds env' Q r rv e k => ?_⟩
  · cases ds with
    | nil => rfl
    | cons d ds => cases e
  · cases ds with
    | nil =>
      cases rv; cases e
      exact ⟨rfl, k st F r (fun _ _ h => h) fun _ _ => rfl⟩
    | cons d ds => cases e
theorem gs_cons {tg : Expr} {tgs : List Expr} {ts us : List Nat} {n : Nat} {f : D → VL.Env → Option VL.Env} {g : List D → VL.Env → Option VL.Env} (h1 : TG1 X tg ts f) (h2 : TGn X tgs n us g)
    (hs : (assignEach (tg :: tgs) X.env).map (·.2) = assign tg X.env :: (assignEach tgs X.env).map (·.2) := by rfl) : TGn X (tg :: tgs) (n + 1) (ts ++ us) (gsC f g) := by
  obtain ⟨a, pa, oa⟩ := h1.ex
  obtain ⟨hl, b, pb, ob⟩ := h2
  refine ⟨fun ds env env' e => ?_, _, pgs_cons pa pb hs, fun G H st env F vs ds env' Q r rv e k => ?_⟩
  · cases ds with
    | nil => cases e
    | cons d ds =>
      obtain ⟨e1, h1, h2⟩ := Option.bind_eq_some_iff.mp (show (f d env).bind (g ds) = some env' from e)
      rw [List.length_cons, hl _ _ _ h2]
  · cases ds with
    | nil => cases e
    | cons d ds =>
      obtain ⟨e1, h1, h2⟩ := Option.bind_eq_some_iff.mp (show (f d env).bind (g ds) = some env' from e)
      cases rv with
      | cons rv rvs =>
        exact ⟨_, _, rfl, oa G H st env F _ d e1 _ r rv h1 fun st1 F1 r1 s1 w1 => ob G H st1 e1 F1 _ ds env' _ r1 rvs h2 fun st2 F2 r2 s2 w2 => k st2 F2 r2 (fun i a m => s1 i a (s2 i a m)) fun ws hw => by
          rw [w2 ws fun i m => hw i (List.mem_append_right _ m), w1 ws fun i m => hw i (List.mem_append_left _ m)]⟩
theorem g_tup {es : List Expr} {k : Nat} {n : Nat} {ts : List Nat} {g : List D → VL.Env → Option VL.Env} (hc : X.calm = true) (h : TGn X es n ts g)
    (hn : (assignEach es X.env).length = n := by rfl) (hst : (assignEach es X.env).findIdx? (·.1) = none := by rfl) : TG1 X (.Tuple es k pos) ts (gT g) := by
  obtain ⟨hl, b, pb, ob⟩ := h
  refine ⟨_, pg_tup hc pb hn hst, fun G H st env F v d env' Q r rv e kk => ?_⟩
  cases d <;> try (cases e; done)
  rename_i ds
  cases rv with
  | tup h1 l1 =>
    exact ⟨_, _, rfl, SqT.of (r.sub _ _ h1), by rw [l1.length]; exact hl _ _ _ e, ob G H st env F _ ds env' Q r l1 e kk⟩

/-! ### the canonical readings -/
def cE (K : PySem.W.Frag) (f : VL.Env → Option D) : TE := fun st H Q => ∃ G env F d, ER K G H st env F ∧ f env = some d ∧ ∀ v G' H', Ex G H G' H' → Rp K G' v d → Q v H'
def cT (K : PySem.W.Frag) (f : VL.Env → Option Bool) : TT := fun st H Q => ∃ G env F b, ER K G H st env F ∧ f env = some b ∧ ∀ G' H', Ex G H G' H' → Q b H'
def cG (K : PySem.W.Frag) (ts : List Nat) (f : D → VL.Env → Option VL.Env) : TG := fun v st H Q => ∃ G env F d env', ER K G H st env F ∧ Rp K G v d ∧ f d env = some env' ∧
  ∀ st' F', ER K G H st' env' F' → (∀ i a, a ∈ F' i → a ∈ F i) → (∀ vs, (∀ i ∈ ts, i ∈ vs) → L2.wipe st' vs = L2.wipe st vs) → Q st' H
theorem PV.c {e : Expr} {f : VL.Env → Option D} (h : PV X e f) : PE X e (cE X.K f) := by
  obtain ⟨t, p, o⟩ := h.ex
  exact ⟨fun pins s st H Q I ⟨G, env, F, d, r, e, k⟩ => p.run pins s st H Q I (o G H st env F Q d r e k)⟩
theorem TBs.c {e : List Expr} {f : VL.Env → Option Bool} (h : TBs X e f) : PTs X e (cT X.K f) := by
  obtain ⟨t, p, o⟩ := h.ex
  exact ⟨fun pins s st H Q I ⟨G, env, F, d, r, e, k⟩ => p.run pins s st H Q I (o G H st env F Q d r e k)⟩
theorem TG1.c {tg : Expr} {ts : List Nat} {f : D → VL.Env → Option VL.Env} (h : TG1 X tg ts f) : PG X tg (cG X.K ts f) := by
  obtain ⟨t, p, o⟩ := h.ex
  exact ⟨fun pins s st H v u Q I rv ⟨G, env, F, d, env', r, rd, e, k⟩ => p.run pins s st H v u Q I rv (o G H st env F v d env' Q r rd e k)⟩
end

/-! ### walks -/
structure Yl (K : PySem.W.Frag) (G1 B : Hp) (J : It) (xs : List D) : Prop where
  len : xs.length ≤ sizeLine
  step : ∀ (i : Nat) (G2 H2 : Hp), Same G1 G2 → Same B H2 → Same G2 H2 → ∀ d, xs[i]? = some d → J.go i H2 ∧ ∀ v H3, J.yld i H2 v H3 → ∃ G3, Ex G2 H2 G3 H3 ∧ Rp K G3 v d
  stop : ∀ (i : Nat) (G2 H2 : Hp), Same G1 G2 → Same B H2 → Same G2 H2 → i = xs.length → J.stop i H2
/-- iter yields f of the slots; nothing but what is frozen stands behind it -/
structure IV (X : Cx) (tg iter : Expr) (f : VL.Env → Option (List D)) : Prop where
  ex : ∃ wi, PI X tg iter wi ∧ ∀ (G H : Hp) (st : L2.St) (env : VL.Env) (F : Nat → List Addr) (R : It → Hp → Prop) (xs : List D), ER X.K G H st env F → f env = some xs →
    (∀ J G1 H1, Ex G H G1 H1 → Yl X.K G1 G1 J xs → R J H1) → wi st H R
/-- .. as long as the heap only grows -/
structure IC (X : Cx) (tg iter : Expr) (f : VL.Env → Option (List D)) : Prop where
  ex : ∃ wi, PI X tg iter wi ∧ ∀ (G H : Hp) (st : L2.St) (env : VL.Env) (F : Nat → List Addr) (R : It → Hp → Prop) (xs : List D), ER X.K G H st env F → f env = some xs →
    (∀ J G1 H1, Ex G H G1 H1 → Yl X.K G1 H1 J xs → R J H1) → wi st H R
theorem Yl.base {K : PySem.W.Frag} {G1 B B' : Hp} {J : It} {xs : List D} (y : Yl K G1 B J xs) (h : Same B B') : Yl K G1 B' J xs :=
  ⟨y.len, fun i G2 H2 a b c => y.step i G2 H2 a (h.trans b) c, fun i G2 H2 a b c => y.stop i G2 H2 a (h.trans b) c⟩
section
variable {X : Cx} {tg iter : Expr} {pos : Pos} {fa : VL.Env → Option D} {fs : VL.Env → Option (List D)}
theorem IV.c {f : VL.Env → Option (List D)} (h : IV X tg iter f) : IC X tg iter f := by
  obtain ⟨wi, p, o⟩ := h.ex
  exact ⟨wi, p, fun G H st env F R xs r e k => o G H st env F R xs r e fun J G1 H1 x y => k J G1 H1 x (y.base x.gh)⟩
def seqOf : D → Option (List D)
  | .lst xs => some xs
  | .tup xs => some xs
  | _ => none
@[simp] theorem seqOf_lst (xs : List D) : seqOf (.lst xs) = some xs := rfl
@[simp] theorem seqOf_tup (xs : List D) : seqOf (.tup xs) = some xs := rfl
theorem yl_list {K : PySem.W.Frag} {G1 : Hp} {a : Addr} {vs : List V} {xs : List D} (h : G1 a = some (.lst vs)) (l : RpL K G1 vs xs) (hz : vs.length ≤ sizeLine) : Yl K G1 G1 (Itl K a) xs := by
  refine ⟨by rw [← l.length]; exact hz, fun i G2 H2 s1 s2 s3 d e => ?_, fun i G2 H2 s1 s2 s3 e => ?_⟩
  · obtain ⟨v, hv, rv⟩ := l.get e
    have hh : H2 a = some (.lst vs) := s3 _ _ (s1 _ _ h)
    refine ⟨⟨vs, v, SqL.of hh, hv⟩, fun w H3 ⟨e3, q⟩ => ?_⟩
    subst e3
    have := q vs (SqL.of hh)
    rw [hv] at this
    cases this
    exact ⟨G2, Ex.refl s3, rv.up s1⟩
  · exact ⟨vs, SqL.of (s3 _ _ (s1 _ _ h)), by rw [l.length, e]; exact Nat.le_refl _⟩
theorem yl_tup {K : PySem.W.Frag} {G1 : Hp} {a : Addr} {vs : List V} {xs : List D} (h : G1 a = some (.tup vs)) (l : RpL K G1 vs xs) (hz : vs.length ≤ sizeLine) : Yl K G1 G1 (Itt K a) xs := by
  refine ⟨by rw [← l.length]; exact hz, fun i G2 H2 s1 s2 s3 d e => ?_, fun i G2 H2 s1 s2 s3 e => ?_⟩
  · obtain ⟨v, hv, rv⟩ := l.get e
    have hh : H2 a = some (.tup vs) := s3 _ _ (s1 _ _ h)
    refine ⟨⟨vs, v, SqT.of hh, hv⟩, fun w H3 ⟨e3, q⟩ => ?_⟩
    subst e3
    have := q vs (SqT.of hh)
    rw [hv] at this
    cases this
    exact ⟨G2, Ex.refl s3, rv.up s1⟩
  · exact ⟨vs, SqT.of (s3 _ _ (s1 _ _ h)), by rw [l.length, e]; exact Nat.le_refl _⟩
theorem i_seq {l : Expr} (h : PV X l fa) : IV X tg l (fun env => (fa env).bind seqOf) := by
  obtain ⟨t, p, o⟩ := h.ex
  refine ⟨_, pi_or (pi_list (pe_hlen p)) (pi_tup (pe_hlen p)), fun G H st env F R xs r e k => ?_⟩
  obtain ⟨d, e1, e2⟩ := Option.bind_eq_some_iff.mp e
  cases d <;> try (cases e2; done)
  · cases e2
    refine .inl (o G H st env F _ _ r e1 fun v G' H' x rv hz => ?_)
    cases rv with
    | lst h l => exact ⟨_, rfl, ⟨_, SqL.of (x.gh _ _ h)⟩, k _ G' H' x (yl_list h l (hz.1 _ _ (x.gh _ _ h)))⟩
  · cases e2
    refine .inr (o G H st env F _ _ r e1 fun v G' H' x rv hz => ?_)
    cases rv with
    | tup h l => exact ⟨_, rfl, ⟨_, SqT.of (x.gh _ _ h)⟩, k _ G' H' x (yl_tup h l (hz.2 _ _ (x.gh _ _ h)))⟩
/-- a list of the def's own, whose items are frozen -/
def frzL : List S → Option (List D)
  | [] => some []
  | .fz d :: xs => (frzL xs).map (d :: ·)
  | _ => none
@[simp] theorem frzL_map : ∀ ds : List D, frzL (ds.map S.fz) = some ds
  | [] => rfl
  | d :: ds => by
    show (frzL (ds.map S.fz)).map _ = _
    rw [frzL_map ds]; rfl
theorem frzL_some : ∀ {xs : List S} {ds : List D}, frzL xs = some ds → xs = ds.map S.fz
  | [], _, h => by cases h; rfl
  | .fz d :: xs, _, h => by
    obtain ⟨ds, h1, h2⟩ := Option.map_eq_some_iff.mp (show (frzL xs).map _ = _ from h)
    subst h2
    rw [frzL_some h1]; rfl
  | .ol _ :: _, _, h => by cases h
  | .od _ _ :: _, _, h => by cases h
  | .ot _ :: _, _, h => by cases h
  | .ob _ _ :: _, _, h => by cases h
  | .at _ _ :: _, _, h => by cases h
def olOf : S → Option (List D)
  | .ol xs => frzL xs
  | _ => none
@[simp] theorem olOf_ol (ds : List D) : olOf (.ol (ds.map S.fz)) = some ds := frzL_map ds
theorem slRs_rp {K : PySem.W.Frag} {G H : Hp} : ∀ {ds : List D} {vs : List V} {F : List Addr}, SlRs K G H vs (ds.map S.fz) F → RpL K G vs ds ∧ F = []
  | [], _, _, h => by cases h; exact ⟨.nil, rfl⟩
  | d :: ds, _, _, h => by
    cases h with
    | cons h1 h2 =>
      cases h1 with
      | fz r =>
        obtain ⟨a, b⟩ := slRs_rp h2
        exact ⟨.cons r a, by rw [b]; rfl⟩
theorem olOf_some {s : S} {ds : List D} (h : olOf s = some ds) : s = .ol (ds.map S.fz) := by
  cases s <;> try (cases h; done)
  rw [frzL_some (show frzL _ = some ds from h)]
theorem yl_own {K : PySem.W.Frag} {G1 H1 : Hp} {a : Addr} {vs : List V} {xs : List D} (h : H1 a = some (.lst vs)) (l : RpL K G1 vs xs) (hz : vs.length ≤ sizeLine) : Yl K G1 H1 (Itl K a) xs := by
  refine ⟨by rw [← l.length]; exact hz, fun i G2 H2 s1 s2 s3 d e => ?_, fun i G2 H2 s1 s2 s3 e => ?_⟩
  · obtain ⟨v, hv, rv⟩ := l.get e
    have hh : H2 a = some (.lst vs) := s2 _ _ h
    refine ⟨⟨vs, v, SqL.of hh, hv⟩, fun w H3 ⟨e3, q⟩ => ?_⟩
    subst e3
    have := q vs (SqL.of hh)
    rw [hv] at this
    cases this
    exact ⟨G2, Ex.refl s3, rv.up s1⟩
  · exact ⟨vs, SqL.of (s2 _ _ h), by rw [l.length, e]; exact Nat.le_refl _⟩
theorem i_own (i : Nat) {x : Str} (hN : X.N[i]? = some x := by rfl) (hv : Vis X.env.scope x := by first | exact Or.inl rfl | exact Or.inr (Or.inl rfl) | exact Or.inr (Or.inr rfl))
    (hd : (x == ("__debug__" : Str)) = false := by decide) (hcd : (x == ("__classdict__" : Str)) = false := by decide) : IC X tg (.Name x pos) (fun env => (getS env i).bind olOf) := by
  refine ⟨_, pi_list (pe_hlen (pe_var hN hv hd hcd)), fun G H st env F R xs r e k => ?_⟩
  obtain ⟨s, e1, e2⟩ := Option.bind_eq_some_iff.mp e
  obtain rfl := olOf_some e2
  obtain ⟨v, h1, h2⟩ := r.slot i _ (getS_some e1)
  generalize F i = Fi at h2
  refine ⟨v, h1, fun hz => ?_⟩
  cases h2 with
  | ol g1 g2 =>
    obtain ⟨l, _⟩ := slRs_rp g2
    exact ⟨_, rfl, ⟨_, SqL.of g1⟩, k _ G H (Ex.refl r.sub) (yl_own g1 l (hz.1 _ _ g1))⟩
/-- range -/
def rangeD (lo : Int) (n : Nat) : List D := (List.range n).map fun (i : Nat) => D.int (lo + (i : Int))
def rng1 : List D → Option (List D)
  | [.int n] => if n.natAbs ≤ sizeLine then some (rangeD 0 n.toNat) else none
  | _ => none
def rng2 : List D → Option (List D)
  | [.int a, .int b] => if a.natAbs ≤ sizeLine ∧ b.natAbs ≤ 4000000 ∧ (b - a).toNat ≤ sizeLine then some (rangeD a (b - a).toNat) else none
  | _ => none
theorem yl_range {K : PySem.W.Frag} {G1 : Hp} {lo : Int} {n : Nat} (hz : n ≤ sizeLine) : Yl K G1 G1 (Itr lo n) (rangeD lo n) := by
  have hl : (rangeD lo n).length = n := by unfold rangeD; rw [List.length_map, List.length_range]
  refine ⟨by rw [hl]; exact hz, fun i G2 H2 s1 s2 s3 d e => ?_, fun i G2 H2 s1 s2 s3 e => ?_⟩
  · have hi : i < n := by
      rw [← hl]; exact (List.getElem?_eq_some_iff.mp e).1
    have hd : d = .int (lo + i) := by
      unfold rangeD at e
      rw [List.getElem?_map, List.getElem?_range hi] at e
      exact (Option.some.inj e).symm
    subst hd
    refine ⟨hi, fun w H3 ⟨e3, q⟩ => ?_⟩
    subst e3 q
    exact ⟨G2, Ex.refl s3, .int _⟩
  · show n ≤ i
    rw [e, hl]; exact Nat.le_refl _
theorem line62 : (sizeLine : Int) < 2 ^ 62 := by rw [sizeLine_eq]; decide
theorem i_range1 {a : Expr} {p : Pos} (hg : Gl X "range") (hm : X.mg "range" = none) (ha : AW X [a] fs) (hs : starEach [a] X.env = [(false, eval a X.env)] := by rfl) : IV X tg (.Call (.Name "range" p) [a] [] pos) (fun env => (fs env).bind rng1) := by
  obtain ⟨t, pa, o⟩ := ha.ex
  refine ⟨_, pi_range1 hg hm pa hs, fun G H st env F R xs r e k => ?_⟩
  obtain ⟨ds, e1, e2⟩ := Option.bind_eq_some_iff.mp e
  unfold rng1 at e2
  split at e2
  · rename_i n
    split at e2
    · rename_i hn
      cases e2
      refine o G H st env F _ _ r e1 fun vs G1 H1 x rv => ?_
      cases rv with
      | cons r1 r2 =>
        cases r2; cases r1
        have := line62
        exact ⟨n, rfl, by omega, by omega, k _ G1 H1 x (yl_range (by omega))⟩
    · cases e2
  · cases e2
theorem i_range2 {a b : Expr} {p : Pos} (hg : Gl X "range") (hm : X.mg "range" = none) (ha : AW X [a, b] fs) (hs : starEach [a, b] X.env = [(false, eval a X.env), (false, eval b X.env)] := by rfl) (hs2 : starEach [b] X.env = [(false, eval b X.env)] := by rfl) :
    IV X tg (.Call (.Name "range" p) [a, b] [] pos) (fun env => (fs env).bind rng2) := by
  obtain ⟨t, pa, o⟩ := ha.ex
  refine ⟨_, pi_range2 hg hm pa hs hs2, fun G H st env F R xs r e k => ?_⟩
  obtain ⟨ds, e1, e2⟩ := Option.bind_eq_some_iff.mp e
  unfold rng2 at e2
  split at e2
  · rename_i m n
    split at e2
    · rename_i hn
      cases e2
      refine o G H st env F _ _ r e1 fun vs G1 H1 x rv => ?_
      cases rv with
      | cons r1 r2 =>
        cases r1
        cases r2 with
        | cons r2 r3 =>
          cases r3; cases r2
          have := line62
          exact ⟨m, n, rfl, by omega, k _ G1 H1 x (yl_range hn.2.2)⟩
    · cases e2
  · cases e2
/-- enumerate -/
def enumD (xs : List D) : List D := xs.mapIdx fun (i : Nat) d => D.tup [.int (i : Int), d]
theorem yl_enum {K : PySem.W.Frag} {G1 : Hp} {a : Addr} {vs : List V} {xs : List D} (h : G1 a = some (.lst vs)) (l : RpL K G1 vs xs) (hz : vs.length ≤ sizeLine) : Yl K G1 G1 (Ite K a) (enumD xs) := by
  have hl : (enumD xs).length = xs.length := by unfold enumD; rw [List.length_mapIdx]
  refine ⟨by rw [hl, ← l.length]; exact hz, fun i G2 H2 s1 s2 s3 d e => ?_, fun i G2 H2 s1 s2 s3 e => ?_⟩
  · unfold enumD at e
    rw [List.getElem?_mapIdx] at e
    obtain ⟨z, e1, e2⟩ := Option.map_eq_some_iff.mp e
    subst e2
    obtain ⟨v, hv, rv⟩ := l.get e1
    have hh : H2 a = some (.lst vs) := s3 _ _ (s1 _ _ h)
    refine ⟨⟨vs, v, SqL.of hh, hv⟩, fun w H3 ⟨T, y, ew, nT, e3, q⟩ => ?_⟩
    subst ew e3
    have := q vs (SqL.of hh)
    rw [hv] at this
    cases this
    exact ⟨_, Ex.frz s3 nT, .tup upd_same (.cons (.int _) (.cons ((rv.up s1).up (same_upd (s3.free nT))) .nil))⟩
  · exact ⟨vs, SqL.of (s3 _ _ (s1 _ _ h)), by rw [l.length, e, hl]; exact Nat.le_refl _⟩
theorem i_enum {l : Expr} {p tpos : Pos} {elts : List Expr} {kk : Nat} (hg : Gl X "enumerate") (hm : X.mg "enumerate" = none) (h : PV X l fa) (hs : starEach [l] X.env = [(false, eval l X.env)] := by rfl) :
    IV X (.Tuple elts kk tpos) (.Call (.Name "enumerate" p) [l] [] pos) (fun env => (fa env).bind fun d => (lstOf d).map enumD) := by
  obtain ⟨t, pa, o⟩ := h.ex
  refine ⟨_, pi_hlen (pi_enum hg hm (pa_cons pa pa_nil hs) hs), fun G H st env F R xs r e k => ?_⟩
  obtain ⟨d, e1, e2⟩ := Option.bind_eq_some_iff.mp e
  obtain ⟨ys, e3, e4⟩ := Option.map_eq_some_iff.mp e2
  subst e4
  obtain rfl := lstOf_some e3
  refine o G H st env F _ _ r e1 fun v G' H' x rv => ?_
  cases rv with
  | lst h l => exact ⟨_, _, rfl, SqL.of (x.gh _ _ h), fun hz => k _ G' H' x (yl_enum h l (hz.1 _ _ (x.gh _ _ h)))⟩

/-! ### comprehensions -/
def compD (ft : D → VL.Env → Option VL.Env) (fc : VL.Env → Option Bool) (fe : VL.Env → Option D) (env : VL.Env) : List D → Option (List D)
  | [] => some []
  | d :: ds => (ft d env).bind fun e1 => (fc e1).bind fun b => if b then (fe e1).bind fun y => (compD ft fc fe env ds).map (y :: ·) else compD ft fc fe env ds
def OkL (K : PySem.W.Frag) (f : VL.Env → Option (List D)) (t : TE) : Prop := ∀ (G H : Hp) (st : L2.St) (env : VL.Env) (F : Nat → List Addr) (Q : VK) (ds : List D), ER K G H st env F → f env = some ds →
    (∀ p vs G' H', Ex G H G' H' → H p = none → G' p = none → H' p = some (.lst vs) → RpL K G' vs ds → Q (.ref p) H') → t st H Q
theorem ex_none {G H G' H' : Hp} (x : Ex G H G' H') {p : Addr} {o : HO} (g : G p = none) (h : H p = some o) : G' p = none := by
  cases z : G' p with
  | none => rfl
  | some u =>
    rcases x.nw p (by rw [z]; exact fun q => nomatch q) with q | q
    · exact absurd g q
    · rw [h] at q; cases q
theorem ex_upd {G H G' H' : Hp} {p : Addr} {o : HO} (x : Ex G H G' H') (hp : H p = none) (gp : G' p = none) : Ex G H G' (upd H' p o) :=
  ⟨fun b u e => by rw [upd_ne (ne_of_none e hp)]; exact x.hh _ _ e, x.gg, fun b u e => by rw [upd_ne (ne_of_none e gp)]; exact x.gh _ _ e, x.nw⟩
theorem lc_ok {K : PySem.W.Frag} {wi : TI} {fi : VL.Env → Option (List D)} {ts vs : List Nat} {ft : D → VL.Env → Option VL.Env} {fc : VL.Env → Option Bool} {fe : VL.Env → Option D}
    (hi : ∀ (G H : Hp) (st : L2.St) (env : VL.Env) (F : Nat → List Addr) (R : It → Hp → Prop) (xs : List D), ER K G H st env F → fi env = some xs → (∀ J G1 H1, Ex G H G1 H1 → Yl K G1 H1 J xs → R J H1) → wi st H R)
    (hts : ∀ i ∈ ts, i ∈ vs) : OkL K (fun env => (fi env).bind (compD ft fc fe (wipeE env vs))) (tLc wi (cG K ts ft) (cT K fc) (cE K fe) vs) := by
  intro G H st env F Q ys r e k
  obtain ⟨xs, e1, e2⟩ := Option.bind_eq_some_iff.mp e
  refine hi G H st env F _ xs r e1 fun J G1 H1 x1 y => fun Dp hD => ?_
  refine ⟨fun i m Hc => m = xs.length - i ∧ i ≤ xs.length ∧ ∃ Gc acc accD rest, Ex G1 H1 Gc Hc ∧ Gc Dp = none ∧ Hc Dp = some (.lst acc) ∧ RpL K Gc acc accD ∧ acc.length ≤ i ∧
    compD ft fc fe (wipeE env vs) (xs.drop i) = some rest ∧ accD ++ rest = ys, ⟨xs.length, rfl, Nat.zero_le _, G1, [], [], ys, ex_upd (Ex.refl x1.gh) hD (x1.gh.free hD), x1.gh.free hD, upd_same, .nil, Nat.le_refl _, e2, rfl⟩, ?_⟩
  rintro i m Hc ⟨em, hi', Gc, acc, accD, rest, xc, gD, hDc, lc, la, ec, ea⟩
  by_cases hlt : i < xs.length
  · have ed : xs.drop i = xs[i] :: xs.drop (i + 1) := List.drop_eq_getElem_cons hlt
    rw [ed] at ec
    obtain ⟨e1', t1, ec⟩ := Option.bind_eq_some_iff.mp (show (ft xs[i] (wipeE env vs)).bind _ = some rest from ec)
    obtain ⟨b, t2, ec⟩ := Option.bind_eq_some_iff.mp ec
    obtain ⟨go, hy⟩ := y.step i Gc Hc xc.gg xc.hh xc.gh xs[i] (List.getElem?_eq_getElem hlt)
    refine .inr ⟨go, _, fun H' h' => ⟨xs.length - (i + 1), by omega, rfl, hlt, h'⟩, fun v H3 hv => ?_⟩
    obtain ⟨G3, x3, rv⟩ := hy v H3 hv
    have xa := x1.trans (xc.trans x3)
    obtain ⟨Fw, rw', _⟩ := ER.wipe (r.ext xa) vs
    refine ⟨G3, wipeE env vs, Fw, xs[i], e1', rw', rv, t1, fun st' F' r' _ w' => ⟨?_, ?_⟩⟩
    · rw [w' vs hts, wipe_idem]
    · refine ⟨G3, e1', F', b, r', t2, fun G4 H4 x4 => ?_⟩
      cases b with
      | true =>
        obtain ⟨yv, t3, ec⟩ := Option.bind_eq_some_iff.mp (show (fe e1').bind _ = some rest from ec)
        obtain ⟨rest', t4, t5⟩ := Option.map_eq_some_iff.mp ec
        subst t5
        refine iteT ⟨G4, e1', F', yv, r'.ext x4, t3, fun u G5 H5 x5 r5 => ?_⟩
        have hd5 : H5 Dp = some (.lst acc) := x5.hh _ _ (x4.hh _ _ (x3.hh _ _ hDc))
        have xx := (x3.trans x4).trans x5
        have g5 : G5 Dp = none := ex_none xx gD hDc
        refine ⟨acc, hd5, Nat.lt_of_le_of_lt la (Nat.lt_of_lt_of_le hlt y.len), G5, acc ++ [u], accD ++ [yv], rest', ex_upd (xc.trans xx) hD g5, g5, upd_same, (lc.up xx.gg).append (.cons r5 .nil), ?_, t4, ?_⟩
        · rw [List.length_append, List.length_singleton]; omega
        · rw [List.append_assoc]; exact ea
      | false =>
        refine iteF ?_
        have xx := x3.trans x4
        exact ⟨G4, acc, accD, rest, xc.trans xx, ex_none xx gD hDc, x4.hh _ _ (x3.hh _ _ hDc), lc.up xx.gg, by omega, ec, ea⟩
  · have ei : i = xs.length := by omega
    refine .inl ⟨y.stop i Gc Hc xc.gg xc.hh xc.gh ei, ?_⟩
    rw [List.drop_eq_nil_of_le (by omega)] at ec
    cases ec
    rw [List.append_nil] at ea
    subst ea
    exact k Dp acc Gc Hc (x1.trans xc) (x1.hh.free hD) gD hDc lc
variable {elt : Expr} {ifs : List Expr} {scope : Scope} {own : List (Str × Nat)} {fi : VL.Env → Option (List D)} {ts : List Nat} {ft : D → VL.Env → Option VL.Env} {fc : VL.Env → Option Bool} {fe : VL.Env → Option D}
theorem l_comp (hc : X.calm = true) (hN : X.N.Nodup) (hi : IC X tg iter fi) (ok : BlkOk X.N X.env.scope scope own) (hts : ∀ i ∈ ts, i ∈ own.map (·.2))
    (hg : ∀ (s : Shared) (H : Hp) (C : Addr) (cl : List (Str × Addr)) (fp : List Addr), TG1 (X.blk s H scope (compEnvC scope cl C X.env) fp) tg ts ft)
    (ht : ∀ (s : Shared) (H : Hp) (C : Addr) (cl : List (Str × Addr)) (fp : List Addr), TBs (X.blk s H scope (compEnvC scope cl C X.env) fp) ifs fc)
    (he : ∀ (s : Shared) (H : Hp) (C : Addr) (cl : List (Str × Addr)) (fp : List Addr), PV (X.blk s H scope (compEnvC scope cl C X.env) fp) elt fe) (hs : ∀ x, foldedSetIterable iter X.env x = pure x := by intro _; rfl) :
    PL X (.ListComp elt [⟨tg, iter, ifs, 0⟩] scope pos) (fun env => (fi env).bind (compD ft fc fe (wipeE env (own.map (·.2))))) := by
  obtain ⟨wi, p, o⟩ := hi.ex
  exact ⟨_, pe_lc hc hN p ok (fun s H C cl fp => (hg s H C cl fp).c) (fun s H C cl fp => (ht s H C cl fp).c) (fun s H C cl fp => (he s H C cl fp).c) hs, lc_ok o hts⟩

end
end VL

set_option Elab.async false
set_option linter.all false
set_option maxRecDepth 100000
/-! VL6: statements, bodies, defs. -/
namespace VL
open PySem PySem.Spec PyProof.Rows L2

/-! ### freezing -/
def frzG (G H : Hp) (l : List Addr) : Hp := fun a => if a ∈ l then H a else G a
theorem frzG_up {G H : Hp} {l : List Addr} (off : ∀ a ∈ l, G a = none) : Same G (frzG G H l) := fun b o e => by
  unfold frzG
  by_cases m : b ∈ l
  · rw [off b m] at e; cases e
  · rw [if_neg m]; exact e
theorem frzG_in {G H : Hp} {l : List Addr} (s : Same G H) : Same (frzG G H l) H := fun b o e => by
  unfold frzG at e
  split at e
  · exact e
  · exact s _ _ e
theorem frzG_rp {K : PySem.W.Frag} {G H : Hp} {v : V} {s : S} {l : List Addr} (h : SlR K G H v s l) (n : s.noOb = true) (off : ∀ a ∈ l, G a = none) : Rp K (frzG G H l) v s.er := by
  refine SlR.view (Same.refl _) s v l n (SlR.mono (frzG_up off) s v l (fun a m => ?_) h)
  unfold frzG; rw [if_pos m]
theorem frzG_ex {G H G' H' : Hp} {l : List Addr} (x : Ex G H G' H') (fr : ∀ a ∈ l, H a = none ∧ G' a = none) : Ex G H (frzG G' H' l) H' :=
  ⟨x.hh, x.gg.trans (frzG_up fun a m => (fr a m).2), frzG_in x.gh, fun b e => by
    unfold frzG at e
    split at e
    · rename_i m; exact .inr (fr b m).1
    · exact x.nw b e⟩
def frS (s : S) : Option D := if s.noOb then some s.er else none
@[simp] theorem frS_fz (d : D) : frS (.fz d) = some d := rfl
theorem frS_some {s : S} {d : D} (h : frS s = some d) : s.noOb = true ∧ s.er = d := by
  unfold frS at h
  split at h
  · rename_i n; cases h; exact ⟨n, rfl⟩
  · cases h
theorem PO.v {X : Cx} {e : Expr} {f : VL.Env → Option S} (h : PO X e f) : PV X e (fun env => (f env).bind frS) := by
  obtain ⟨t, p, o⟩ := h.ex
  refine ⟨t, p, fun G H st env F Q d r e k => ?_⟩
  obtain ⟨s, e1, e2⟩ := Option.bind_eq_some_iff.mp e
  obtain ⟨n, rfl⟩ := frS_some e2
  exact o G H st env F Q s r e1 fun v G' H' Fv x h nd fr => k v _ H' (frzG_ex x fr) (frzG_rp h n fun a m => (fr a m).2)

/-! ### the context of a body -/
structure C0 where
  G : Hp
  H : Hp
  O : Addr → Prop
structure CR (c : C0) (G H : Hp) (F : Nat → List Addr) : Prop where
  g0 : Same c.G G
  gnew : ∀ b, G b ≠ none → c.G b ≠ none ∨ c.H b = none ∨ c.O b
  keep : ∀ b o, c.H b = some o → ¬ c.O b → H b = some o
  own : ∀ i a, a ∈ F i → c.H a = none ∨ c.O a
theorem CR.new {c : C0} {G H : Hp} {F : Nat → List Addr} (r : CR c G H F) {a : Addr} (h : H a = none) : c.H a = none ∨ c.O a := by
  by_cases q : c.O a
  · exact .inr q
  · cases z : c.H a with
    | none => exact .inl rfl
    | some o => rw [r.keep a o z q] at h; cases h
theorem CR.ext {c : C0} {G H G' H' : Hp} {F : Nat → List Addr} (r : CR c G H F) (x : Ex G H G' H') : CR c G' H' F :=
  ⟨r.g0.trans x.gg, fun b e => (x.nw b e).elim (r.gnew b) fun z => .inr (r.new z), fun b o e q => x.hh _ _ (r.keep b o e q), r.own⟩
theorem CR.sub {c : C0} {G H : Hp} {F F' : Nat → List Addr} (r : CR c G H F) (h : ∀ i a, a ∈ F' i → a ∈ F i) : CR c G H F' := ⟨r.g0, r.gnew, r.keep, fun i a m => r.own i a (h i a m)⟩
def re (G H : Hp) (F : Nat → List Addr) : C0 := ⟨G, H, fun a => ∃ i, a ∈ F i⟩
theorem CR.re {G H : Hp} {F : Nat → List Addr} : CR (VL.re G H F) G H F := ⟨Same.refl _, fun b e => .inl e, fun b o e _ => e, fun i a m => .inr ⟨i, m⟩⟩
theorem CR.trans {c : C0} {G H G' H' : Hp} {F F' : Nat → List Addr} (a : CR c G H F) (b : CR (VL.re G H F) G' H' F') : CR c G' H' F' := by
  refine ⟨a.g0.trans b.g0, fun x e => ?_, fun x o e q => b.keep x o (a.keep x o e q) fun ⟨i, m⟩ => ?_, fun i x m => ?_⟩
  · rcases b.gnew x e with z | z | ⟨i, m⟩
    · exact a.gnew x z
    · exact .inr (a.new z)
    · exact .inr (a.own i x m)
  · rcases a.own i x m with z | z
    · rw [z] at e; cases e
    · exact q z
  · rcases b.own i x m with z | ⟨j, m'⟩
    · exact a.new z
    · exact a.own j x m'
inductive Out where
  | nx (env : VL.Env)
  | rt (s : S) (env : VL.Env)
  | bk (env : VL.Env)
  | ct (env : VL.Env)
def Post (K : PySem.W.Frag) (c : C0) (E : Ends) : Out → Prop
  | .nx env => ∀ (G H : Hp) (st : L2.St) (F : Nat → List Addr), ER K G H st env F → CR c G H F → E.nx st H
  | .bk env => ∀ (G H : Hp) (st : L2.St) (F : Nat → List Addr), ER K G H st env F → CR c G H F → E.bk st H
  | .ct env => ∀ (G H : Hp) (st : L2.St) (F : Nat → List Addr), ER K G H st env F → CR c G H F → E.ct st H
  | .rt s env => ∀ (v : V) (G H : Hp) (st : L2.St) (F : Nat → List Addr) (l : List Addr), ER K G H st env F → CR c G H F → SlR K G H v s l → l.Nodup →
      (∀ a ∈ l, G a = none ∧ (c.H a = none ∨ c.O a)) → (∀ i a, a ∈ l → a ∉ F i) → E.rt v H
theorem Post.re {K : PySem.W.Frag} {c : C0} {E : Ends} {G H : Hp} {F : Nat → List Addr} (r : CR c G H F) : ∀ {o : Out}, Post K c E o → Post K (VL.re G H F) E o
  | .nx env, h => fun G' H' st F' e q => h G' H' st F' e (r.trans q)
  | .bk env, h => fun G' H' st F' e q => h G' H' st F' e (r.trans q)
  | .ct env, h => fun G' H' st F' e q => h G' H' st F' e (r.trans q)
  | .rt s env, h => fun v G' H' st F' l e q sl nd fr dj => h v G' H' st F' l e (r.trans q) sl nd (fun a m => ⟨(fr a m).1, by
      rcases (fr a m).2 with z | ⟨i, m'⟩
      · exact r.new z
      · exact r.own i a m'⟩) dj
def OkT (K : PySem.W.Frag) (f : VL.Env → Option Out) (t : TS) : Prop :=
  ∀ (c : C0) (G H : Hp) (st : L2.St) (env : VL.Env) (F : Nat → List Addr) (E : Ends) (o : Out), ER K G H st env F → CR c G H F → f env = some o → Post K c E o → t E st H
structure SV (X : Cx) (st : Stmt) (f : VL.Env → Option Out) : Prop where
  ex : ∃ t, PS X st t ∧ OkT X.K f t
structure BV (X : Cx) (st : List Stmt) (f : VL.Env → Option Out) : Prop where
  ex : ∃ t, PSs X st t ∧ OkT X.K f t

/-! ### blocks -/
@[simp] def sNx : VL.Env → Option Out := fun env => some (.nx env)
def sq (f g : VL.Env → Option Out) : VL.Env → Option Out := fun env => (f env).bind fun o => match o with
  | .nx e => g e
  | o => some o
section
variable {X : Cx} {pos : Pos} {st : Stmt} {sts : List Stmt} {f g : VL.Env → Option Out}
theorem b_nil : BV X [] sNx := ⟨_, pss_nil, fun c G H s env F E o r q e k => by cases e; exact k G H s F r q⟩
theorem b_one (h : SV X st f) : BV X [st] f := by
  obtain ⟨t, p, o⟩ := h.ex
  exact ⟨t, pss_one p, o⟩
theorem b_cons (h : SV X st f) (h' : BV X sts g) : BV X (st :: sts) (sq f g) := by
  obtain ⟨t, p, o⟩ := h.ex
  obtain ⟨t', p', o'⟩ := h'.ex
  refine ⟨_, pss_cons p p', fun c G H s env F E u r q e k => ?_⟩
  obtain ⟨z, e1, e2⟩ := Option.bind_eq_some_iff.mp e
  refine o c G H s env F _ z r q e1 ?_
  cases z with
  | nx e' => exact fun G' H' s' F' r' q' => o' c G' H' s' e' F' E u r' q' e2 k
  | rt v e' => cases e2; exact k
  | bk e' => cases e2; exact k
  | ct e' => cases e2; exact k
/-- what the proof does on its own side ahead of a statement: a slot is frozen -/
def frzE (i : Nat) (env : VL.Env) : Option VL.Env := (getS env i).bind fun s => (frS s).map fun d => env.set i (some (.fz d))
theorem ER.freeze {K : PySem.W.Frag} {G H : Hp} {s : L2.St} {env env' : VL.Env} {F : Nat → List Addr} {i : Nat} (r : ER K G H s env F) (e : frzE i env = some env') : ∃ G', ER K G' H s env' (putFp F i []) ∧ Same G G' ∧ (∀ b, G' b ≠ none → G b ≠ none ∨ b ∈ F i) := by
  obtain ⟨z, e1, e2⟩ := Option.bind_eq_some_iff.mp e
  obtain ⟨d, e3, e4⟩ := Option.map_eq_some_iff.mp e2
  subst e4
  obtain ⟨n, rfl⟩ := frS_some e3
  have ei := getS_some e1
  obtain ⟨v, h1, h2⟩ := r.slot i z ei
  have hi : i < env.length := (List.getElem?_eq_some_iff.mp ei).1
  have up := frzG_up (H := H) (r.off i)
  refine ⟨frzG G H (F i), ⟨frzG_in r.sub, by rw [List.length_set]; exact r.len, fun j t e => ?_, fun j hj => ?_, fun j a m => ?_, fun j => ?_, fun j k a m m' => ?_⟩, up, fun b e => ?_⟩
  · rcases get_set e with ⟨rfl, _, e⟩ | ⟨ne, e⟩
    · cases e
      refine ⟨v, h1, ?_⟩
      unfold putFp; rw [if_pos rfl]
      exact .fz (frzG_rp h2 n (r.off j))
    · obtain ⟨w, h3, h4⟩ := r.slot j t e
      refine ⟨w, h3, ?_⟩
      unfold putFp; rw [if_neg ne]
      exact SlR.mono up t w _ (fun _ _ => rfl) h4
  · unfold putFp
    by_cases c : j = i
    · rw [if_pos c]
    · rw [if_neg c]
      exact r.out j fun t e => hj t (by rw [List.getElem?_set_ne (Ne.symm c)]; exact e)
  · unfold putFp at m
    split at m
    · cases m
    · rename_i c
      unfold frzG
      rw [if_neg fun z => c (r.dj j i a m z)]
      exact r.off j a m
  · unfold putFp
    split
    · exact .nil
    · exact r.nd j
  · unfold putFp at m m'
    split at m <;> split at m'
    · cases m
    · cases m
    · cases m'
    · exact r.dj j k a m m'
  · unfold frzG at e
    split at e
    · rename_i m; exact .inr m
    · exact .inl e
theorem CR.freeze {c : C0} {G H G' : Hp} {F : Nat → List Addr} {i : Nat} (r : CR c G H F) (u : Same G G') (n : ∀ b, G' b ≠ none → G b ≠ none ∨ b ∈ F i) : CR c G' H (putFp F i []) :=
  ⟨r.g0.trans u, fun b e => (n b e).elim (r.gnew b) fun m => .inr (r.own i b m), r.keep, fun j a m => r.own j a (putFp_sub m)⟩
theorem OkT.freeze {K : PySem.W.Frag} {t : TS} (i : Nat) (h : OkT K f t) : OkT K (fun env => (frzE i env).bind f) t := fun c G H s env F E o r q e k => by
  obtain ⟨env', e1, e2⟩ := Option.bind_eq_some_iff.mp e
  obtain ⟨G', r', u, n⟩ := r.freeze e1
  exact h c G' H s env' _ E o r' (q.freeze u n) e2 k
theorem s_freeze (i : Nat) (h : SV X st f) : SV X st (fun env => (frzE i env).bind f) := by
  obtain ⟨t, p, o⟩ := h.ex
  exact ⟨t, p, o.freeze i⟩
theorem b_freeze (i : Nat) (h : BV X sts f) : BV X sts (fun env => (frzE i env).bind f) := by
  obtain ⟨t, p, o⟩ := h.ex
  exact ⟨t, p, o.freeze i⟩

/-! ### small statements -/
variable {e : Expr} {fe : VL.Env → Option D} {fo : VL.Env → Option S} {fl : VL.Env → Option (List D)} {fc : VL.Env → Option Bool}
theorem s_pass : SV X (.Pass pos) sNx := ⟨_, ps_pass, fun c G H s env F E o r q e k => by cases e; exact k G H s F r q⟩
theorem s_break : SV X (.Break pos) (fun env => some (.bk env)) := ⟨_, ps_break, fun c G H s env F E o r q e k => by cases e; exact k G H s F r q⟩
theorem s_continue : SV X (.Continue pos) (fun env => some (.ct env)) := ⟨_, ps_continue, fun c G H s env F E o r q e k => by cases e; exact k G H s F r q⟩
@[simp] def sSet (i : Nat) (fe : VL.Env → Option D) : VL.Env → Option Out := fun env => (fe env).map fun d => .nx (env.set i (some (.fz d)))
@[simp] def sSetO (i : Nat) (fo : VL.Env → Option S) : VL.Env → Option Out := fun env => (fo env).map fun d => .nx (env.set i (some d))
theorem okSet {K : PySem.W.Frag} {te : TE} {i : Nat} (o : ∀ (G H : Hp) (st : L2.St) (env : VL.Env) (F : Nat → List Addr) (Q : VK) (d : D), ER K G H st env F → fe env = some d → (∀ v G' H', Ex G H G' H' → Rp K G' v d → Q v H') → te st H Q) :
    OkT K (sSet i fe) (tAsg te (gName i)) := fun c G H s env F E u r q e k => by
  obtain ⟨d, e1, e2⟩ := Option.map_eq_some_iff.mp e
  subst e2
  exact o G H s env F _ d r e1 fun v G' H' x rv => k G' H' _ _ ((r.ext x).setF i rv) ((q.ext x).sub fun j a m => putFp_sub m)
theorem okSetO {K : PySem.W.Frag} {te : TE} {i : Nat} (o : ∀ (G H : Hp) (st : L2.St) (env : VL.Env) (F : Nat → List Addr) (Q : VK) (s : S), ER K G H st env F → fo env = some s →
      (∀ v G' H' Fv, Ex G H G' H' → SlR K G' H' v s Fv → Fv.Nodup → (∀ a ∈ Fv, H a = none ∧ G' a = none) → Q v H') → te st H Q) :
    OkT K (sSetO i fo) (tAsg te (gName i)) := fun c G H s env F E u r q e k => by
  obtain ⟨d, e1, e2⟩ := Option.map_eq_some_iff.mp e
  subst e2
  refine o G H s env F _ d r e1 fun v G' H' l x rv nd fr => ?_
  by_cases hi : i < env.length
  · refine k G' H' _ _ ((r.ext x).setO i rv nd (fun a m => (fr a m).2) (fun j _ a m m' => ?_) hi) ⟨(q.ext x).g0, (q.ext x).gnew, (q.ext x).keep, fun j a m => ?_⟩
    · obtain ⟨o, z⟩ := r.dom m'
      rw [(fr a m).1] at z; cases z
    · unfold putFp at m
      split at m
      · exact q.new (fr a m).1
      · exact q.own j a m
  · have e1 : env.set i (some d) = env := List.set_eq_of_length_le (by omega)
    have e2 : s.set i (some v) = s := List.set_eq_of_length_le (by rw [← r.len]; omega)
    show E.nx (s.set i (some v)) H'
    rw [e2]
    have k' : ∀ (G H : Hp) (st : L2.St) (F : Nat → List Addr), ER K G H st env F → CR c G H F → E.nx st H := by rw [e1] at k; exact k
    exact k' G' H' s F (r.ext x) (q.ext x)
theorem s_set (i : Nat) {x : Str} {pos' : Pos} (hN : X.N.Nodup) (he : PV X e fe) (hi : X.N[i]? = some x := by rfl) (hx : Loc X.env.scope x := by first | exact Or.inl rfl | exact Or.inr rfl) (hs : swapsWith e (some (.Name x pos')) pos.line X.env = pure false := by rfl)
    (hf : X.fn x = true ∨ X.env.scope.names.lookup x = some .local := by first | exact .inl rfl | exact .inr rfl) : SV X (.Assign [.Name x pos'] e pos) (sSet i fe) := by
  obtain ⟨t, p, o⟩ := he.ex
  exact ⟨_, ps_set hN hi hx p hs hf, okSet o⟩
theorem s_setO (i : Nat) {x : Str} {pos' : Pos} (hN : X.N.Nodup) (he : PO X e fo) (hi : X.N[i]? = some x := by rfl) (hx : Loc X.env.scope x := by first | exact Or.inl rfl | exact Or.inr rfl) (hs : swapsWith e (some (.Name x pos')) pos.line X.env = pure false := by rfl)
    (hf : X.fn x = true ∨ X.env.scope.names.lookup x = some .local := by first | exact .inl rfl | exact .inr rfl) : SV X (.Assign [.Name x pos'] e pos) (sSetO i fo) := by
  obtain ⟨t, p, o⟩ := he.ex
  exact ⟨_, ps_set hN hi hx p hs hf, okSetO o⟩
/-- name = [..] -/
theorem okL_v {K : PySem.W.Frag} {te : TE} (o : OkL K fl te) : ∀ (G H : Hp) (st : L2.St) (env : VL.Env) (F : Nat → List Addr) (Q : VK) (d : D), ER K G H st env F → (fl env).map D.lst = some d → (∀ v G' H', Ex G H G' H' → Rp K G' v d → Q v H') → te st H Q := fun G H st env F Q d r e k => by
  obtain ⟨ds, q, e2⟩ := Option.map_eq_some_iff.mp e
  subst e2
  refine o G H st env F Q ds r q fun p vs G' H' x hp gp e' l => ?_
  have x2 := frzG_ex (l := [p]) x (fun a m => by cases List.mem_singleton.mp m; exact ⟨hp, gp⟩)
  refine k _ _ _ x2 (.lst (by unfold frzG; rw [if_pos (List.mem_singleton.mpr rfl)]; exact e') (l.up (frzG_up fun a m => by cases List.mem_singleton.mp m; exact gp)))
theorem okL_o {K : PySem.W.Frag} {te : TE} (o : OkL K fl te) : ∀ (G H : Hp) (st : L2.St) (env : VL.Env) (F : Nat → List Addr) (Q : VK) (s : S), ER K G H st env F → (fl env).map (fun ds => S.ol (ds.map S.fz)) = some s →
    (∀ v G' H' Fv, Ex G H G' H' → SlR K G' H' v s Fv → Fv.Nodup → (∀ a ∈ Fv, H a = none ∧ G' a = none) → Q v H') → te st H Q := fun G H st env F Q s r e k => by
  obtain ⟨ds, q, e2⟩ := Option.map_eq_some_iff.mp e
  subst e2
  exact o G H st env F Q ds r q fun p vs G' H' x hp gp e' l => k _ _ _ [p] x (.ol e' (slRs_fz l)) (by simp) fun a m => by cases List.mem_singleton.mp m; exact ⟨hp, gp⟩
variable {elt tg iter : Expr} {ifs : List Expr} {scope : Scope} {own : List (Str × Nat)} {fi : VL.Env → Option (List D)} {ts : List Nat} {ft : D → VL.Env → Option VL.Env}
theorem lc_parts (hi : IC X tg iter fi) (hts : ∀ i ∈ ts, i ∈ own.map (·.2))
    (hg : ∀ (s : Shared) (H : Hp) (C : Addr) (cl : List (Str × Addr)) (fp : List Addr), TG1 (X.blk s H scope (compEnvC scope cl C X.env) fp) tg ts ft)
    (ht : ∀ (s : Shared) (H : Hp) (C : Addr) (cl : List (Str × Addr)) (fp : List Addr), TBs (X.blk s H scope (compEnvC scope cl C X.env) fp) ifs fc)
    (he : ∀ (s : Shared) (H : Hp) (C : Addr) (cl : List (Str × Addr)) (fp : List Addr), PV (X.blk s H scope (compEnvC scope cl C X.env) fp) elt fe) (hc : X.calm = true) (hN : X.N.Nodup) (ok : BlkOk X.N X.env.scope scope own)
    {i : Nat} {y : Str} {py spos : Pos} (hy : X.N[i]? = some y) (hyl : X.env.scope.names.lookup y = some .local)
    (hsw : swapsWith (.ListComp elt [⟨tg, iter, ifs, 0⟩] scope pos) (some (.Name y py)) spos.line X.env = pure true) (hs : ∀ x, foldedSetIterable iter X.env x = pure x) :
    ∃ te, PS X (.Assign [.Name y py] (.ListComp elt [⟨tg, iter, ifs, 0⟩] scope pos) spos) (tAsg te (gName i)) ∧ OkL X.K (fun env => (fi env).bind (compD ft fc fe (wipeE env (own.map (·.2))))) te := by
  obtain ⟨wi, p, o⟩ := hi.ex
  exact ⟨_, ps_setLc hc hN hy hyl hsw p ok (fun s H C cl fp => (hg s H C cl fp).c) (fun s H C cl fp => (ht s H C cl fp).c) (fun s H C cl fp => (he s H C cl fp).c) hs, lc_ok o hts⟩
theorem s_setC (i : Nat) {y : Str} {py spos : Pos} (hc : X.calm = true) (hN : X.N.Nodup) (hi : IC X tg iter fi) (ok : BlkOk X.N X.env.scope scope own) (hts : ∀ i ∈ ts, i ∈ own.map (·.2))
    (hg : ∀ (s : Shared) (H : Hp) (C : Addr) (cl : List (Str × Addr)) (fp : List Addr), TG1 (X.blk s H scope (compEnvC scope cl C X.env) fp) tg ts ft)
    (ht : ∀ (s : Shared) (H : Hp) (C : Addr) (cl : List (Str × Addr)) (fp : List Addr), TBs (X.blk s H scope (compEnvC scope cl C X.env) fp) ifs fc)
    (he : ∀ (s : Shared) (H : Hp) (C : Addr) (cl : List (Str × Addr)) (fp : List Addr), PV (X.blk s H scope (compEnvC scope cl C X.env) fp) elt fe)
    (hsw : swapsWith (.ListComp elt [⟨tg, iter, ifs, 0⟩] scope pos) (some (.Name y py)) spos.line X.env = pure true) (hy : X.N[i]? = some y := by rfl) (hyl : X.env.scope.names.lookup y = some .local := by rfl)
    (hs : ∀ x, foldedSetIterable iter X.env x = pure x := by intro _; rfl) :
    SV X (.Assign [.Name y py] (.ListComp elt [⟨tg, iter, ifs, 0⟩] scope pos) spos) (sSet i fun env => ((fi env).bind (compD ft fc fe (wipeE env (own.map (·.2))))).map D.lst) := by
  obtain ⟨te, p, o⟩ := lc_parts (fi := fi) hi hts hg ht he hc hN ok hy hyl hsw hs
  exact ⟨_, p, okSet (okL_v o)⟩
theorem s_setCO (i : Nat) {y : Str} {py spos : Pos} (hc : X.calm = true) (hN : X.N.Nodup) (hi : IC X tg iter fi) (ok : BlkOk X.N X.env.scope scope own) (hts : ∀ i ∈ ts, i ∈ own.map (·.2))
    (hg : ∀ (s : Shared) (H : Hp) (C : Addr) (cl : List (Str × Addr)) (fp : List Addr), TG1 (X.blk s H scope (compEnvC scope cl C X.env) fp) tg ts ft)
    (ht : ∀ (s : Shared) (H : Hp) (C : Addr) (cl : List (Str × Addr)) (fp : List Addr), TBs (X.blk s H scope (compEnvC scope cl C X.env) fp) ifs fc)
    (he : ∀ (s : Shared) (H : Hp) (C : Addr) (cl : List (Str × Addr)) (fp : List Addr), PV (X.blk s H scope (compEnvC scope cl C X.env) fp) elt fe)
    (hsw : swapsWith (.ListComp elt [⟨tg, iter, ifs, 0⟩] scope pos) (some (.Name y py)) spos.line X.env = pure true) (hy : X.N[i]? = some y := by rfl) (hyl : X.env.scope.names.lookup y = some .local := by rfl)
    (hs : ∀ x, foldedSetIterable iter X.env x = pure x := by intro _; rfl) :
    SV X (.Assign [.Name y py] (.ListComp elt [⟨tg, iter, ifs, 0⟩] scope pos) spos) (sSetO i fun env => ((fi env).bind (compD ft fc fe (wipeE env (own.map (·.2))))).map fun ds => S.ol (ds.map S.fz)) := by
  obtain ⟨te, p, o⟩ := lc_parts (fi := fi) hi hts hg ht he hc hN ok hy hyl hsw hs
  exact ⟨_, p, okSetO (okL_o o)⟩
/-- targets -/
@[simp] def sTg (ft : D → VL.Env → Option VL.Env) (fe : VL.Env → Option D) : VL.Env → Option Out := fun env => (fe env).bind fun d => (ft d env).map .nx
theorem s_tg (he : PV X e fe) (hg : TG1 X tg ts ft) (hs : swapsWithSole [tg] e pos.line X.env = pure false := by rfl) (hw : swappedStores [tg] e X.env = pure none := by rfl)
    (h1 : (assignEach [tg] X.env).map (·.2) = [assign tg X.env] := by rfl) : SV X (.Assign [tg] e pos) (sTg ft fe) := by
  obtain ⟨t, p, o⟩ := he.ex
  obtain ⟨g, pg, og⟩ := hg.ex
  refine ⟨_, ps_asg p pg hs hw h1, fun c G H s env F E u r q e k => ?_⟩
  obtain ⟨d, e1, e2⟩ := Option.bind_eq_some_iff.mp e
  obtain ⟨env', e3, e4⟩ := Option.map_eq_some_iff.mp e2
  subst e4
  exact o G H s env F _ d r e1 fun v G' H' x rv => og G' H' s env F v d env' _ (r.ext x) rv e3 fun st' F' r' sb _ => k G' H' st' F' r' ((q.ext x).sub sb)
/-- a, b = x, y -/
@[simp] def sPar (i j : Nat) (fs : VL.Env → Option (List D)) : VL.Env → Option Out := fun env => (fs env).bind fun ds => match ds with
  | [d, e] => some (.nx ((env.set i (some (.fz d))).set j (some (.fz e))))
  | _ => none
theorem s_par {i j : Nat} {x y : Str} {a b : Expr} {fs : VL.Env → Option (List D)} {px py pt : Pos} {kt k2 pt2} (hc : X.calm = true) (hN : X.N.Nodup) (ha : AV X [a, b] fs) (hij : i ≠ j) (hi : X.N[i]? = some x := by rfl) (hj : X.N[j]? = some y := by rfl)
    (hx : X.env.scope.names.lookup x = some .local := by rfl) (hy : X.env.scope.names.lookup y = some .local := by rfl)
    (hw : swappedStores [.Tuple [.Name x px, .Name y py] kt pt] (.Tuple [a, b] k2 pt2) X.env = pure (some [x, y]) := by rfl)
    (hs : swapsWithSole [.Tuple [.Name x px, .Name y py] kt pt] (.Tuple [a, b] k2 pt2) pos.line X.env = pure false := by rfl) :
    SV X (.Assign [.Tuple [.Name x px, .Name y py] kt pt] (.Tuple [a, b] k2 pt2) pos) (sPar i j fs) := by
  obtain ⟨t, p, o⟩ := ha.ex
  refine ⟨_, ps_par hc hN hi hj hij hx hy p hw hs, fun c G H s env F E u r q e k => ?_⟩
  obtain ⟨ds, e1, e2⟩ := Option.bind_eq_some_iff.mp e
  split at e2
  · cases e2
    refine o G H s env F _ _ r e1 fun vs G' H' x rv => ?_
    cases rv with
    | cons r1 r2 =>
      cases r2 with
      | cons r2 r3 =>
        cases r3
        exact ⟨_, _, rfl, k G' H' _ _ (((r.ext x).setF i r1).setF j r2) ((q.ext x).sub fun j a m => putFp_sub (putFp_sub m))⟩
  · cases e2
@[simp] def sIf (c : VL.Env → Option Bool) (f g : VL.Env → Option Out) : VL.Env → Option Out := fun env => (c env).bind fun b => if b then f env else g env
theorem s_if {cnd : Expr} {a b : List Stmt} (hc : TB X cnd fc) (ha : BV X a f) (hb : BV X b g) : SV X (.If cnd a b pos) (sIf fc f g) := by
  obtain ⟨tc, pc, oc⟩ := hc.ex
  obtain ⟨t, p, o⟩ := ha.ex
  obtain ⟨t', p', o'⟩ := hb.ex
  refine ⟨_, ps_if pc p p', fun c G H s env F E u r q e k => ?_⟩
  obtain ⟨x, e1, e2⟩ := Option.bind_eq_some_iff.mp e
  refine oc G H s env F _ x r e1 fun G' H' y => ?_
  cases x with
  | true => exact iteT (o c G' H' s env F E u (r.ext y) (q.ext y) e2 k)
  | false => exact iteF (o' c G' H' s env F E u (r.ext y) (q.ext y) e2 k)
@[simp] def sRet (fe : VL.Env → Option D) : VL.Env → Option Out := fun env => (fe env).map fun d => .rt (.fz d) env
@[simp] def sRetO (fo : VL.Env → Option S) : VL.Env → Option Out := fun env => (fo env).map fun s => .rt s env
theorem s_ret (he : PV X e fe) : SV X (.Return (some e) pos) (sRet fe) := by
  obtain ⟨t, p, o⟩ := he.ex
  refine ⟨_, ps_ret p, fun c G H s env F E u r q e k => ?_⟩
  obtain ⟨d, e1, e2⟩ := Option.map_eq_some_iff.mp e
  subst e2
  exact o G H s env F _ d r e1 fun v G' H' x rv => k v G' H' s F [] (r.ext x) (q.ext x) (.fz rv) .nil (fun a m => by cases m) (fun i a m => by cases m)
theorem s_retO (he : PO X e fo) : SV X (.Return (some e) pos) (sRetO fo) := by
  obtain ⟨t, p, o⟩ := he.ex
  refine ⟨_, ps_ret p, fun c G H s env F E u r q e k => ?_⟩
  obtain ⟨d, e1, e2⟩ := Option.map_eq_some_iff.mp e
  subst e2
  refine o G H s env F _ d r e1 fun v G' H' l x rv nd fr => k v G' H' s F l (r.ext x) (q.ext x) rv nd (fun a m => ⟨(fr a m).2, q.new (fr a m).1⟩) (fun i a m m' => ?_)
  obtain ⟨o, z⟩ := r.dom m'
  rw [(fr a m).1] at z; cases z
/-- return of an owned name: it is moved out -/
@[simp] def sRetN (i : Nat) : VL.Env → Option Out := fun env => (getS env i).map fun s => .rt s (env.set i none)
theorem s_retN (i : Nat) {x : Str} {xpos : Pos} (hN : X.N[i]? = some x := by rfl) (hv : Vis X.env.scope x := by first | exact Or.inl rfl | exact Or.inr (Or.inl rfl) | exact Or.inr (Or.inr rfl))
    (hd : (x == ("__debug__" : Str)) = false := by decide) (hcd : (x == ("__classdict__" : Str)) = false := by decide) : SV X (.Return (some (.Name x xpos)) pos) (sRetN i) := by
  refine ⟨_, ps_ret (pe_var hN hv hd hcd), fun c G H s env F E u r q e k => ?_⟩
  obtain ⟨d, e1, e2⟩ := Option.map_eq_some_iff.mp e
  subst e2
  obtain ⟨v, h1, h2⟩ := r.slot i d (getS_some e1)
  refine ⟨v, h1, k v G H s (putFp F i []) (F i) (r.hide i) (q.sub fun j a m => putFp_sub m) h2 (r.nd i) (fun a m => ⟨r.off i a m, q.own i a m⟩) (fun j a m m' => ?_)⟩
  unfold putFp at m'
  split at m'
  · cases m'
  · rename_i c
    exact c (r.dj j i a m' m)
theorem s_retNone : SV X (.Return none pos) (fun env => some (.rt (.fz .non) env)) := by
  refine ⟨_, ps_retN, fun c G H s env F E u r q e k => ?_⟩
  cases e
  exact k .non G H s F [] r q (.fz .non) .nil (fun a m => by cases m) (fun i a m => by cases m)
/-- n += e, whole numbers -/
@[simp] def sAug (i : Nat) (g : Int → Int → Int) (fe : VL.Env → Option D) : VL.Env → Option Out := fun env => (getF env i).bind fun x => (intOf x).bind fun a => (fe env).bind fun y => (intOf y).map fun b => .nx (env.set i (some (.fz (.int (g a b)))))
theorem s_aug (i : Nat) {x : Str} {pos' : Pos} {op : Operator} {gg : Int → Int → Int} (hN : X.N.Nodup) (he : PV X e fe) (ho : PIp X op (ipI gg)) (hi : X.N[i]? = some x := by rfl) (hx : Loc X.env.scope x := by first | exact Or.inl rfl | exact Or.inr rfl)
    (hf : X.fn x = true ∨ X.env.scope.names.lookup x = some .local := by first | exact .inl rfl | exact .inr rfl) : SV X (.AugAssign (.Name x pos') op e pos) (sAug i gg fe) := by
  obtain ⟨t, p, o⟩ := he.ex
  refine ⟨_, ps_aug hN hi hx p ho hf, fun c G H s env F E u r q e k => ?_⟩
  obtain ⟨d, e1, e⟩ := Option.bind_eq_some_iff.mp e
  obtain ⟨a, e2, e⟩ := Option.bind_eq_some_iff.mp e
  obtain ⟨d', e3, e⟩ := Option.bind_eq_some_iff.mp e
  obtain ⟨b, e4, e5⟩ := Option.map_eq_some_iff.mp e
  subst e5
  obtain rfl := intOf_some e2
  obtain rfl := intOf_some e4
  obtain ⟨v, h1, h2⟩ := r.fz (getF_some e1)
  cases h2
  refine ⟨_, h1, o G H s env F _ _ r e3 fun w G' H' y rw' => ?_⟩
  cases rw'
  exact ⟨a, b, rfl, rfl, k G' H' _ _ ((r.ext y).setF i (.int _)) ((q.ext y).sub fun j a m => putFp_sub m)⟩

/-! ### a slot's own thing changed -/
theorem ER.upd {K : PySem.W.Frag} {G H H' : Hp} {s : L2.St} {env : VL.Env} {F : Nat → List Addr} (r : ER K G H s env F) {i : Nat} {v : V} {z : S} {l : List Addr} (hv : s[i]? = some (some v))
    (ag : ∀ b, b ∉ F i → H' b = H b ∨ H b = none) (h : SlR K G H' v z l) (nd : l.Nodup) (hl : ∀ a ∈ l, a ∈ F i ∨ (G a = none ∧ ∀ j, a ∉ F j)) : ER K G H' s (env.set i (some z)) (putFp F i l) := by
  have hi : i < env.length := by rw [r.len]; exact (List.getElem?_eq_some_iff.mp hv).1
  refine ⟨fun b o e => ?_, by rw [List.length_set]; exact r.len, fun j t e => ?_, fun j hj => ?_, fun j a m => ?_, fun j => ?_, fun j k a m m' => ?_⟩
  · have hb : b ∉ F i := fun m => by rw [r.off i b m] at e; cases e
    rcases ag b hb with q | q
    · rw [q]; exact r.sub _ _ e
    · rw [r.sub _ _ e] at q; cases q
  · rcases get_set e with ⟨rfl, _, e⟩ | ⟨ne, e⟩
    · cases e
      refine ⟨v, hv, ?_⟩
      unfold putFp; rw [if_pos rfl]; exact h
    · obtain ⟨w, h1, h2⟩ := r.slot j t e
      refine ⟨w, h1, ?_⟩
      unfold putFp; rw [if_neg ne]
      refine SlR.mono (Same.refl _) t w _ (fun a m => ?_) h2
      rcases ag a (fun z => ne (r.dj j i a m z)) with q | q
      · exact q
      · obtain ⟨o, z⟩ := r.dom m
        rw [z] at q; cases q
  · unfold putFp
    by_cases c : j = i
    · subst c; exact absurd (List.getElem?_set_self hi) (hj z)
    · rw [if_neg c]
      exact r.out j fun t e => hj t (by rw [List.getElem?_set_ne (Ne.symm c)]; exact e)
  · unfold putFp at m
    split at m
    · rcases hl a m with q | q
      · exact r.off i a q
      · exact q.1
    · exact r.off j a m
  · unfold putFp
    split
    · exact nd
    · exact r.nd j
  · unfold putFp at m m'
    split at m <;> split at m'
    · rename_i c c'; rw [c, c']
    · rename_i c c'
      rcases hl a m with q | q
      · exact absurd (r.dj i k a q m').symm c'
      · exact absurd m' (q.2 k)
    · rename_i c c'
      rcases hl a m' with q | q
      · exact absurd (r.dj i j a q m).symm c
      · exact absurd m (q.2 j)
    · exact r.dj j k a m m'
theorem CR.upd {c : C0} {G H H' : Hp} {F : Nat → List Addr} (r : CR c G H F) {i : Nat} {l : List Addr} (ag : ∀ b, b ∉ F i → H' b = H b ∨ H b = none) (hl : ∀ a ∈ l, a ∈ F i ∨ c.H a = none ∨ c.O a) : CR c G H' (putFp F i l) := by
  refine ⟨r.g0, r.gnew, fun b o e q => ?_, fun j a m => ?_⟩
  · have hb : b ∉ F i := fun m => by
      rcases r.own i b m with z | z
      · rw [z] at e; cases e
      · exact q z
    have := r.keep b o e q
    rcases ag b hb with z | z
    · rw [z]; exact this
    · rw [this] at z; cases z
  · unfold putFp at m
    split at m
    · rcases hl a m with q | q
      · exact r.own i a q
      · exact q
    · exact r.own j a m
theorem SlRs.append {K : PySem.W.Frag} {G H : Hp} : ∀ {xs : List S} {vs : List V} {F : List Addr} {v : V} {s : S} {l : List Addr}, SlRs K G H vs xs F → SlR K G H v s l → SlRs K G H (vs ++ [v]) (xs ++ [s]) (F ++ l)
  | [], _, _, _, _, l, h, h' => by
    cases h
    have := SlRs.cons h' (SlRs.nil (K := K) (G := G) (H := H))
    rw [List.append_nil] at this
    exact this
  | x :: xs, _, _, _, _, _, h, h' => by
    cases h with
    | cons h1 h2 =>
      rw [List.append_assoc]
      exact .cons h1 (SlRs.append h2 h')
theorem SlRs.appendL {K : PySem.W.Frag} {G H : Hp} : ∀ {xs ys : List S} {vs ws : List V} {F l : List Addr}, SlRs K G H vs xs F → SlRs K G H ws ys l → SlRs K G H (vs ++ ws) (xs ++ ys) (F ++ l)
  | [], _, _, _, _, l, h, h' => by cases h; exact h'
  | x :: xs, _, _, _, _, _, h, h' => by
    cases h with
    | cons h1 h2 =>
      rw [List.append_assoc]
      exact .cons h1 (SlRs.appendL h2 h')
/-- x.append(e) at an owned name -/
def appS : S → S → Option S
  | .ol xs, s => if xs.length < sizeLine then some (.ol (xs ++ [s])) else none
  | _, _ => none
theorem appS_some {z s u : S} (h : appS z s = some u) : ∃ xs, z = .ol xs ∧ xs.length < sizeLine ∧ u = .ol (xs ++ [s]) := by
  cases z <;> try (cases h; done)
  unfold appS at h
  dsimp only at h
  split at h
  · rename_i hl; cases h; exact ⟨_, rfl, hl, rfl⟩
  · cases h
@[simp] def sApp (i : Nat) (fo : VL.Env → Option S) : VL.Env → Option Out := fun env => (getS env i).bind fun z => (fo env).bind fun s => (appS z s).map fun u => .nx (env.set i (some u))
theorem s_app (i : Nat) {x : Str} {xpos apos cpos : Pos} (he : PO X e fo) (hN : X.N[i]? = some x := by rfl) (hv : Vis X.env.scope x := by first | exact Or.inl rfl | exact Or.inr (Or.inl rfl) | exact Or.inr (Or.inr rfl))
    (hd : (x == ("__debug__" : Str)) = false := by decide) (hcd : (x == ("__classdict__" : Str)) = false := by decide)
    (hbase : attributeBase (.Name x xpos) "append" X.env (eval (.Name x xpos) X.env) = eval (.Name x xpos) X.env := by rfl)
    (hfew : ((backTo cpos (starEach [e] X.env)).all (fun x => !x.1) && (backToKw cpos (keywordEach [] X.env)).all (fun x => x.1.isSome)
      && decide ([e].length + ([] : List Keyword).length + (if ([] : List Keyword).isEmpty then 0 else 1) < 30)) = true := by rfl)
    (hline : (apos.endLine == cpos.line) = true := by rfl) (hs : starEach [e] X.env = (false, eval e X.env) :: starEach [] X.env := by rfl)
    (hsw : swapsWith (.Call (.Attribute (.Name x xpos) "append" apos) [e] [] cpos) none pos.line X.env = pure false := by rfl) :
    SV X (.Expr (.Call (.Attribute (.Name x xpos) "append" apos) [e] [] cpos) pos) (sApp i fo) := by
  obtain ⟨t, p, o⟩ := he.ex
  refine ⟨_, ps_expr (pe_bm PySem.F.plainAttrs_list PySem.F.slot_list_append PySem.F.type_list_append mt_append (pe_var hN hv hd hcd) (pa_cons p pa_nil hs) hbase hfew hline hs rfl) hsw, fun c G H s env F E u r q e k => ?_⟩
  obtain ⟨z, e1, e⟩ := Option.bind_eq_some_iff.mp e
  obtain ⟨y, e2, e⟩ := Option.bind_eq_some_iff.mp e
  obtain ⟨u', e3, e4⟩ := Option.map_eq_some_iff.mp e
  subst e4
  obtain ⟨xs, rfl, hl, rfl⟩ := appS_some e3
  · obtain ⟨v, h1, h2⟩ := r.slot i _ (getS_some e1)
    have hF : F i = F i := rfl
    generalize hFi : F i = Fi at h2
    cases h2 with
    | @ol pp vs _ Fx g1 g2 =>
      have h2' : SlR X.K G H (.ref pp) (.ol xs) (pp :: Fx) := .ol g1 g2
      refine ⟨.ref pp, h1, .inl ⟨rfl, _, SqL.of g1⟩, o G H s env F _ y r e2 fun w G' H' l x rw' nd fr => ?_⟩
      have r1 := r.ext x
      have q1 := q.ext x
      have hp : H' pp = some (.lst vs) := x.hh _ _ g1
      refine ⟨pp, vs, w, rfl, rfl, hp, by rw [g2.length]; exact hl, ?_⟩
      have dx : ∀ a ∈ Fx, a ∈ F i := fun a m => by rw [hFi]; exact List.mem_cons_of_mem _ m
      have ndi : (pp :: Fx).Nodup := by rw [← hFi]; exact r.nd i
      have fresh : ∀ a ∈ l, ∀ j, a ∉ F j := fun a m j m' => by
        obtain ⟨o, z⟩ := r.dom m'
        rw [(fr a m).1] at z; cases z
      have hppF : pp ∈ F i := by rw [hFi]; exact List.mem_cons_self
      have ag : ∀ b, b ∉ F i → (L2.upd H' pp (.lst (vs ++ [w]))) b = H' b ∨ H' b = none := fun b hb => .inl (upd_ne fun z => hb (by rw [z]; exact hppF))
      have hne : ∀ a ∈ Fx ++ l, a ≠ pp := fun a m z => by
        subst z
        rcases List.mem_append.mp m with m | m
        · exact (List.nodup_cons.mp ndi).1 m
        · exact fresh a m i hppF
      have sx : SlRs X.K G' H' vs xs Fx := SlRs.mono x.gg xs vs Fx (fun a m => by
        obtain ⟨o, z⟩ := SlRs.dom xs vs Fx g2 a m
        rw [z]; exact x.hh _ _ z) g2
      have new : SlR X.K G' (L2.upd H' pp (.lst (vs ++ [w]))) (.ref pp) (.ol (xs ++ [y])) (pp :: (Fx ++ l)) := by
        refine .ol upd_same (SlRs.mono (Same.refl _) _ _ _ (fun a m => upd_ne (hne a m)) (sx.append rw'))
      refine k G' _ s _ (r1.upd h1 ag new ?_ fun a m => ?_) (CR.upd q1 ag fun a m => ?_)
      · refine List.nodup_cons.mpr ⟨fun m => hne pp m rfl, List.nodup_append.mpr ⟨(List.nodup_cons.mp ndi).2, nd, fun a m b m' z => ?_⟩⟩
        subst z
        exact fresh a m' i (dx a m)
      · rcases List.mem_cons.mp m with rfl | m
        · exact .inl hppF
        · rcases List.mem_append.mp m with m | m
          · exact .inl (dx a m)
          · exact .inr ⟨(fr a m).2, fresh a m⟩
      · rcases List.mem_cons.mp m with rfl | m
        · exact .inl hppF
        · rcases List.mem_append.mp m with m | m
          · exact .inl (dx a m)
          · exact .inr (q.new (fr a m).1)
end
end VL

set_option Elab.async false
set_option linter.all false
set_option maxRecDepth 100000
/-! VL7: loops, stores by place, defs and their calls. -/
namespace VL
open PySem PySem.Spec PyProof.Rows L2
/-! ### for -/
def forD (ft : D → VL.Env → Option VL.Env) (fb : VL.Env → Option Out) : List D → VL.Env → Option Out
  | [], env => some (.nx env)
  | d :: ds, env => (ft d env).bind fun e1 => (fb e1).bind fun o => match o with
    | .nx e2 => forD ft fb ds e2
    | .ct e2 => forD ft fb ds e2
    | .bk e2 => some (.nx e2)
    | .rt s e2 => some (.rt s e2)
@[simp] def sFor (fi : VL.Env → Option (List D)) (ft : D → VL.Env → Option VL.Env) (fb : VL.Env → Option Out) : VL.Env → Option Out := fun env => (fi env).bind fun xs => forD ft fb xs env
section
variable {X : Cx} {pos : Pos} {tg iter : Expr} {body : List Stmt} {ts : List Nat} {fi : VL.Env → Option (List D)} {ft : D → VL.Env → Option VL.Env} {fb : VL.Env → Option Out}
theorem s_for (hp : PassesOwn (model X.prog X.w) X.A X.env X.xe) (hc : X.calm = true) (hi : IV X tg iter fi) (hg : TG1 X tg ts ft) (hb : BV X body fb)
    (hs : ∀ x, foldedSetIterable iter X.env x = pure x := by intro _; rfl) : SV X (.For tg iter body [] pos) (sFor fi ft fb) := by
  obtain ⟨wi, pi, oi⟩ := hi.ex
  obtain ⟨g, pg, og⟩ := hg.ex
  obtain ⟨tb, pb, ob⟩ := hb.ex
  refine ⟨_, ps_for hp hc pi pg pb hs, fun c G H s env F E u r q e k => ?_⟩
  obtain ⟨xs, e1, e2⟩ := Option.bind_eq_some_iff.mp e
  refine oi G H s env F _ xs r e1 fun J G1 H1 x1 y => ?_
  refine ⟨fun i m s' Hc => m = xs.length - i ∧ i ≤ xs.length ∧ ∃ Gc env' F' o, ER X.K Gc Hc s' env' F' ∧ CR c Gc Hc F' ∧ Same G1 Gc ∧ forD ft fb (xs.drop i) env' = some o ∧ Post X.K c E o,
    ⟨xs.length, rfl, Nat.zero_le _, G1, env, F, u, r.ext x1, q.ext x1, Same.refl _, e2, k⟩, ?_⟩
  rintro i m s' Hc ⟨em, hi', Gc, env', F', o, r', q', sg, ec, kc⟩
  by_cases hlt : i < xs.length
  · have ed : xs.drop i = xs[i] :: xs.drop (i + 1) := List.drop_eq_getElem_cons hlt
    rw [ed] at ec
    obtain ⟨ea, t1, ec⟩ := Option.bind_eq_some_iff.mp (show (ft xs[i] env').bind _ = some o from ec)
    obtain ⟨ob', t2, ec⟩ := Option.bind_eq_some_iff.mp ec
    obtain ⟨go, hy⟩ := y.step i Gc Hc sg (sg.trans r'.sub) r'.sub xs[i] (List.getElem?_eq_getElem hlt)
    refine .inr ⟨go, _, fun s2 H' h' => ⟨xs.length - (i + 1), by omega, rfl, hlt, h'⟩, fun v H3 hv => ?_⟩
    obtain ⟨G3, x3, rv⟩ := hy v H3 hv
    refine og G3 H3 s' env' F' v xs[i] ea _ (r'.ext x3) rv t1 fun st2 F2 r2 sb _ => ?_
    have q2 := (q'.ext x3).sub sb
    refine ob (VL.re G3 H3 F2) G3 H3 st2 ea F2 _ ob' r2 .re t2 ?_
    have nxt : ∀ e2', forD ft fb (xs.drop (i + 1)) e2' = some o → ∀ (G H : Hp) (st : L2.St) (F : Nat → List Addr), ER X.K G H st e2' F → CR (VL.re G3 H3 F2) G H F → i + 1 ≤ xs.length ∧ ∃ Gc env' F' o, ER X.K Gc H st env' F' ∧ CR c Gc H F' ∧ Same G1 Gc ∧ forD ft fb (xs.drop (i + 1)) env' = some o ∧ Post X.K c E o :=
      fun e2' ez G' H' st3 F3 r3 q3 => ⟨hlt, G', e2', F3, o, r3, q2.trans q3, (sg.trans x3.gg).trans q3.g0, ez, kc⟩
    cases ob' with
    | nx e2' => exact fun G' H' st3 F3 r3 q3 => (nxt e2' ec G' H' st3 F3 r3 q3).2
    | ct e2' => exact fun G' H' st3 F3 r3 q3 => (nxt e2' ec G' H' st3 F3 r3 q3).2
    | bk e2' =>
      cases ec
      exact fun G' H' st3 F3 r3 q3 => kc G' H' st3 F3 r3 (q2.trans q3)
    | rt z e2' =>
      cases ec
      exact Post.re (o := .rt z e2') q2 kc
  · have ei : i = xs.length := by omega
    refine .inl ⟨y.stop i Gc Hc sg (sg.trans r'.sub) r'.sub ei, ?_⟩
    rw [List.drop_eq_nil_of_le (by omega)] at ec
    cases ec
    exact kc Gc Hc s' F' r' q'
/-! ### while -/
def whD (fc : VL.Env → Option Bool) (fb : VL.Env → Option Out) : Nat → VL.Env → Option Out
  | 0, _ => none
  | n + 1, env => (fc env).bind fun b => if b then (fb env).bind fun o => match o with
      | .nx e2 => whD fc fb n e2
      | .ct e2 => whD fc fb n e2
      | .bk e2 => some (.nx e2)
      | .rt s e2 => some (.rt s e2)
    else some (.nx env)
variable {cnd : Expr} {fc : VL.Env → Option Bool}
/-- n: how many turns are allowed -/
theorem s_while (n : VL.Env → Nat) (hp : PassesOwn (model X.prog X.w) X.A X.env X.xe) (hc : TB X cnd fc) (hb : BV X body fb) : SV X (.While cnd body [] pos) (fun env => whD fc fb (n env) env) := by
  obtain ⟨tc, pc, oc⟩ := hc.ex
  obtain ⟨tb, pb, ob⟩ := hb.ex
  refine ⟨_, ps_while hp pc pb, fun c G H s env F E u r q e k => ?_⟩
  refine ⟨fun m s' Hc => ∃ Gc env' F' o, ER X.K Gc Hc s' env' F' ∧ CR c Gc Hc F' ∧ whD fc fb m env' = some o ∧ Post X.K c E o, ⟨n env, G, env, F, u, r, q, e, k⟩, ?_⟩
  rintro m s' Hc ⟨Gc, env', F', o, r', q', ec, kc⟩
  cases m with
  | zero => cases ec
  | succ m =>
    obtain ⟨b, t1, ec⟩ := Option.bind_eq_some_iff.mp (show (fc env').bind _ = some o from ec)
    refine oc Gc Hc s' env' F' _ b r' t1 fun G2 H2 x2 => ?_
    cases b with
    | true =>
      obtain ⟨ob', t2, ec⟩ := Option.bind_eq_some_iff.mp (show (fb env').bind _ = some o from ec)
      refine iteT ⟨_, fun s2 H' h' => ⟨m, Nat.lt_succ_self m, h'⟩, ob c G2 H2 s' env' F' _ ob' (r'.ext x2) (q'.ext x2) t2 ?_⟩
      cases ob' with
      | nx e2' => exact fun G' H' st3 F3 r3 q3 => ⟨G', e2', F3, o, r3, q3, ec, kc⟩
      | ct e2' => exact fun G' H' st3 F3 r3 q3 => ⟨G', e2', F3, o, r3, q3, ec, kc⟩
      | bk e2' =>
        cases ec
        exact fun G' H' st3 F3 r3 q3 => kc G' H' st3 F3 r3 q3
      | rt z e2' =>
        cases ec
        exact kc
    | false =>
      cases ec
      exact iteF (kc G2 H2 s' F' (r'.ext x2) (q'.ext x2))
end

/-! ### defs -/
def spS (K : PySem.W.Frag) (Fs : List D → Option S) : Sp := fun vs H Q _ => ∃ G ds s, Same G H ∧ RpL K G vs ds ∧ Fs ds = some s ∧
  ∀ v G' H' l, Ex G H G' H' → SlR K G' H' v s l → l.Nodup → (∀ a ∈ l, H a = none ∧ G' a = none) → Q v H'
def startE (n : Nat) (ds : List D) : VL.Env := ds.map (fun d => some (S.fz d)) ++ List.replicate (n - ds.length) none
def retS : Out → Option S
  | .rt s _ => some s
  | .nx _ => some (.fz .non)
  | _ => none
@[simp] theorem retS_rt (s : S) (env : VL.Env) : retS (.rt s env) = some s := rfl
@[simp] theorem retS_nx (env : VL.Env) : retS (.nx env) = some (.fz .non) := rfl
def fnS (np n : Nat) (fb : VL.Env → Option Out) (ds : List D) : Option S := if ds.length = np then (fb (startE n ds)).bind retS else none
theorem ER.start {K : PySem.W.Frag} {G H : Hp} (sub : Same G H) {vs : List V} {ds : List D} (l : RpL K G vs ds) (N : List Str) : ER K G H (L2.start N vs) (startE N.length ds) (fun _ => []) := by
  refine ⟨sub, ?_, fun i s e => ?_, fun i _ => rfl, fun i a m => (by cases m), fun i => .nil, fun i j a m => (by cases m)⟩
  · unfold startE L2.start
    rw [List.length_append, List.length_append, List.length_map, List.length_map, List.length_replicate, List.length_replicate, l.length]
  · unfold startE at e
    by_cases hi : i < ds.length
    · rw [List.getElem?_append_left (by rw [List.length_map]; exact hi), List.getElem?_map] at e
      obtain ⟨d, e1, e2⟩ := Option.map_eq_some_iff.mp e
      cases e2
      obtain ⟨v, h1, h2⟩ := l.get e1
      refine ⟨v, ?_, .fz h2⟩
      unfold L2.start
      rw [List.getElem?_append_left (by rw [List.length_map, l.length]; exact hi), List.getElem?_map, h1]; rfl
    · rw [List.getElem?_append_right (by rw [List.length_map]; omega)] at e
      have := List.mem_of_getElem? e
      rw [List.mem_replicate] at this
      cases this.2
section
variable {P : Program} {w : World} {K : PySem.W.Frag} {mg : Str → Option Value} {base : Heap}
theorem fn_ok {x qual : Str} {st : Stmt} {f : Addr} {fd : FuncData} {N ps : List Str} {k : Nat} {fb : VL.Env → Option Out} (F : Fun K x qual st f fd) (Sc : FnScope N ps (defScope st))
    (hb : ∀ (cdv : Value) (A : Around) (outer : List PySem.Env) (s : Shared) (H : Hp) (E : XK), Room k (A.deeper (envOfC qual (defScope st) s.heap.objs.size f cdv)) →
      BV (cxOf CX0 P w K mg base N qual (defScope st) f cdv A outer s H E).nox (defBody st) fb) : FnOk P w K mg base CX0 (k + 1) f fd ps (spS K (fnS ps.length N.length fb)) := by
  refine F.ok Sc (fun vs H Q E ⟨G, ds, z, _, l, e, _⟩ => ?_) (fun cdv A outer s H vs Q E hr ⟨G, ds, z, sub, l, e, kk⟩ => ?_)
  · unfold fnS at e
    split at e
    · rename_i h; rw [l.length]; exact h
    · cases e
  · obtain ⟨t, p, o⟩ := (hb cdv A outer s H E hr).ex
    unfold fnS at e
    split at e
    · obtain ⟨u, e1, e2⟩ := Option.bind_eq_some_iff.mp e
      refine ⟨t, p, o ⟨G, H, fun _ => False⟩ G H _ _ _ _ u (ER.start sub l N) ⟨Same.refl _, fun b e => .inl e, fun b o e _ => e, fun i a m => by cases m⟩ e1 ?_⟩
      have ex : ∀ {G' H' : Hp} {F' : Nat → List Addr}, Same G' H' → CR ⟨G, H, fun _ => False⟩ G' H' F' → Ex G H G' H' := fun s c =>
        ⟨fun b o e => c.keep b o e (fun z => z), c.g0, s, fun b e => (c.gnew b e).imp _root_.id fun z => z.elim _root_.id False.elim⟩
      cases u with
      | nx env =>
        cases e2
        exact fun G' H' st F' r q => kk .non G' H' [] (ex r.sub q) (.fz .non) .nil (fun a m => by cases m)
      | rt s env =>
        cases e2
        exact fun v G' H' st F' l' r q sl nd fr dj => kk v G' H' l' (ex r.sub q) sl nd (fun a m => ⟨((fr a m).2).elim _root_.id False.elim, (fr a m).1⟩)
      | bk env => cases e2
      | ct env => cases e2
    · cases e
end
section
variable {X : Cx} {pos : Pos} {k : Nat} {f : Addr} {fd : FuncData} {ps : List Str} {Fn : List D → Option S} {x : Str} {p : Pos} {e : Expr} {es : List Expr} {fs : VL.Env → Option (List D)}
theorem o_call (F : FnOk X.prog X.w X.K X.mg X.base CX0 k f fd ps (spS X.K Fn)) (hr : Room k X.A) (hg : Gl X x) (hm : X.mg x = some (.ref f)) (hk : PySem.W.keepIn X.K (.ref f) = true) (hb : Binds X.K fd ps [])
    (ha : AV X (e :: es) fs) (hdb : (x == ("__debug__" : Str)) = false := by decide) (he : starEach (e :: es) X.env = (false, eval e X.env) :: starEach es X.env := by rfl) (hpl : (backTo pos (starEach es X.env)).any (·.1) = false := by rfl) :
    PO X (.Call (.Name x p) (e :: es) [] pos) (fun env => (fs env).bind Fn) := by
  obtain ⟨t, pa, o⟩ := ha.ex
  refine ⟨_, pe_call F hr hg hm hk hb .nil pass0 pa hdb he hpl, fun G H st env F' Q d r e k => ?_⟩
  obtain ⟨ds, e1, e2⟩ := Option.bind_eq_some_iff.mp e
  refine o G H st env F' _ _ r e1 fun vs G1 H1 x1 rv => ⟨G1, ds, d, x1.gh, by rw [List.append_nil]; exact rv, e2, fun v G' H' l x2 sl nd fr => k v G' H' l (x1.trans x2) sl nd fun a m => ⟨x1.hh.free (fr a m).1, (fr a m).2⟩⟩
@[simp] def cF (fs : VL.Env → Option (List D)) (Fn : List D → Option S) : VL.Env → Option D := fun env => ((fs env).bind Fn).bind frS
theorem v_call (F : FnOk X.prog X.w X.K X.mg X.base CX0 k f fd ps (spS X.K Fn)) (hr : Room k X.A) (hg : Gl X x) (hm : X.mg x = some (.ref f)) (hk : PySem.W.keepIn X.K (.ref f) = true) (hb : Binds X.K fd ps [])
    (ha : AV X (e :: es) fs) (hdb : (x == ("__debug__" : Str)) = false := by decide) (he : starEach (e :: es) X.env = (false, eval e X.env) :: starEach es X.env := by rfl) (hpl : (backTo pos (starEach es X.env)).any (·.1) = false := by rfl) :
    PV X (.Call (.Name x p) (e :: es) [] pos) (cF fs Fn) := (o_call F hr hg hm hk hb ha hdb he hpl).v
/-- .. called with what is owned: for a plain answer -/
def scS (s : S) : Option D := match s with
  | .fz d => scal d
  | _ => none
@[simp] def cW (fs : VL.Env → Option (List D)) (Fn : List D → Option S) : VL.Env → Option D := fun env => ((fs env).bind Fn).bind scS
theorem v_callW (F : FnOk X.prog X.w X.K X.mg X.base CX0 k f fd ps (spS X.K Fn)) (hr : Room k X.A) (hg : Gl X x) (hm : X.mg x = some (.ref f)) (hk : PySem.W.keepIn X.K (.ref f) = true) (hb : Binds X.K fd ps [])
    (ha : AW X (e :: es) fs) (hdb : (x == ("__debug__" : Str)) = false := by decide) (he : starEach (e :: es) X.env = (false, eval e X.env) :: starEach es X.env := by rfl) (hpl : (backTo pos (starEach es X.env)).any (·.1) = false := by rfl) :
    PV X (.Call (.Name x p) (e :: es) [] pos) (cW fs Fn) := by
  obtain ⟨t, pa, o⟩ := ha.ex
  refine ⟨_, pe_call F hr hg hm hk hb .nil pass0 pa hdb he hpl, fun G H st env F' Q d r e k => ?_⟩
  obtain ⟨d', e', e3⟩ := Option.bind_eq_some_iff.mp e
  obtain ⟨ds, e1, e2⟩ := Option.bind_eq_some_iff.mp e'
  cases d' <;> try (cases e3; done)
  rename_i d'
  refine o G H st env F' _ _ r e1 fun vs G1 H1 x1 rv => ⟨H1, ds, _, Same.refl _, by rw [List.append_nil]; exact rv, e2, fun v G' H' l x2 sl nd fr => ?_⟩
  refine k v G1 H' (x1.trans ⟨x2.hh, Same.refl _, x1.gh.trans x2.hh, fun b z => .inl z⟩) ?_
  cases sl with
  | fz r2 => cases r2 <;> first | (cases e3; constructor) | cases e3
end

/-! ### stores by place -/
def setL : S → D → S → Option S
  | .ol xs, .int k, s => (ixN xs.length k).map fun j => .ol (xs.set j s)
  | _, _, _ => none
theorem setL_some {z s u : S} {d : D} (h : setL z d s = some u) : ∃ xs k j, z = .ol xs ∧ d = .int k ∧ ixN xs.length k = some j ∧ u = .ol (xs.set j s) := by
  cases z <;> try (cases h; done)
  cases d <;> try (cases h; done)
  obtain ⟨j, h1, h2⟩ := Option.map_eq_some_iff.mp (show (ixN _ _).map _ = some u from h)
  exact ⟨_, _, j, rfl, rfl, h1, h2.symm⟩
theorem rpl_set {K : PySem.W.Frag} {H : Hp} {v : V} {d : D} : ∀ {vs : List V} {ds : List D} (j : Nat), RpL K H vs ds → Rp K H v d → RpL K H (vs.set j v) (ds.set j d)
  | _, _, _, .nil, _ => .nil
  | _, _, 0, .cons _ t, r => .cons r t
  | _, _, j + 1, .cons h t, r => .cons h (rpl_set j t r)
section
variable {X : Cx} {pos : Pos} {e : Expr} {fe : VL.Env → Option D} {fk : VL.Env → Option D}
/-- x[k] = e of an owned list whose items are frozen -/
@[simp] def sPutL (i : Nat) (fk fe : VL.Env → Option D) : VL.Env → Option Out := fun env => (fe env).bind fun d => (getS env i).bind fun z => (olOf z).bind fun ds => (fk env).bind fun kd => (intOf kd).bind fun n => (ixN ds.length n).map fun j => .nx (env.set i (some (.ol ((ds.set j d).map S.fz))))
theorem s_putL (i : Nat) {x : Str} {xpos tpos : Pos} {ke : Expr} (he : PV X e fe) (hk : PW X ke fk) (hN : X.N[i]? = some x := by rfl) (hv : Vis X.env.scope x := by first | exact Or.inl rfl | exact Or.inr (Or.inl rfl) | exact Or.inr (Or.inr rfl))
    (hd : (x == ("__debug__" : Str)) = false := by decide) (hcd : (x == ("__classdict__" : Str)) = false := by decide)
    (ha : ∀ v, assign (.Subscript (.Name x xpos) ke tpos) X.env v = (do
      let ov ← holding [v] (eval (.Name x xpos) X.env)
      let iv ← holding [v, ov] (eval ke X.env)
      standAt tpos
      holding [v, ov, iv] (setItem ov iv v)
      release [v, ov, iv] []) := by intro _; rfl)
    (hs : swapsWithSole [.Subscript (.Name x xpos) ke tpos] e pos.line X.env = pure false := by rfl) (hw : swappedStores [.Subscript (.Name x xpos) ke tpos] e X.env = pure none := by rfl)
    (h1 : (assignEach [.Subscript (.Name x xpos) ke tpos] X.env).map (·.2) = [assign (.Subscript (.Name x xpos) ke tpos) X.env] := by rfl) :
    SV X (.Assign [.Subscript (.Name x xpos) ke tpos] e pos) (sPutL i fk fe) := by
  obtain ⟨t, p, o⟩ := he.ex
  obtain ⟨tk, pk, ok⟩ := hk.ex
  refine ⟨_, ps_asg p (pg_sub (pe_var hN hv hd hcd) pk set_list ha) hs hw h1, fun c G H s env F E u r q e k => ?_⟩
  obtain ⟨d, e1, e⟩ := Option.bind_eq_some_iff.mp e
  obtain ⟨z, e2, e⟩ := Option.bind_eq_some_iff.mp e
  obtain ⟨ds, e3, e⟩ := Option.bind_eq_some_iff.mp e
  obtain ⟨kd, e4, e⟩ := Option.bind_eq_some_iff.mp e
  obtain ⟨n, e5, e⟩ := Option.bind_eq_some_iff.mp e
  obtain ⟨j, e6, e7⟩ := Option.map_eq_some_iff.mp e
  subst e7
  obtain rfl := olOf_some e3
  obtain rfl := intOf_some e5
  obtain ⟨v, g1, g2⟩ := r.slot i _ (getS_some e2)
  refine o G H s env F _ d r e1 fun w G1 H1 x1 rw' => ⟨v, g1, ok G1 H1 s env F _ _ (r.ext x1) e4 fun kv G2 H2 x2 rk => ?_⟩
  cases rk
  have x12 := x1.trans x2
  have r2 := r.ext x12
  obtain ⟨v', g1', g3⟩ := r2.slot i _ (getS_some e2)
  rw [g1] at g1'
  cases g1'
  generalize hFi : F i = Fi at g3
  cases g3 with
  | @ol pp vs _ Fx g4 g5 =>
    obtain ⟨l1, rfl⟩ := slRs_rp g5
    have hppF : pp ∈ F i := by rw [hFi]; exact List.mem_cons_self
    have ag : ∀ b, b ∉ F i → (L2.upd H2 pp (.lst (vs.set j w))) b = H2 b ∨ H2 b = none := fun b hb => .inl (upd_ne fun z => hb (by rw [z]; exact hppF))
    refine ⟨pp, vs, n, j, rfl, rfl, g4, by rw [l1.length]; exact e6, k G2 _ s _ (r2.upd (l := [pp]) g1 ag (.ol upd_same (slRs_fz (rpl_set j l1 (rw'.up x2.gg)))) (by simp) fun a m => ?_) (CR.upd (q.ext x12) ag fun a m => ?_)⟩
    · cases List.mem_singleton.mp m; exact .inl hppF
    · cases List.mem_singleton.mp m; exact .inl hppF
end
end VL

set_option Elab.async false
set_option linter.all false
set_option maxRecDepth 100000
/-! VL8: expressions that change an owned slot on the way (draws): the same rules with the slots handed on. -/
namespace VL
open PySem PySem.Spec PyProof.Rows L2
abbrev Mo (α : Type) := VL.Env → Option (α × VL.Env)
structure MV (X : Cx) (e : Expr) (f : Mo D) : Prop where
  ex : ∃ t, PE X e t ∧ ∀ (c : C0) (G H : Hp) (st : L2.St) (env : VL.Env) (F : Nat → List Addr) (Q : VK) (d : D) (env' : VL.Env), ER X.K G H st env F → CR c G H F → f env = some (d, env') →
    (∀ v G' H' F', ER X.K G' H' st env' F' → CR c G' H' F' → Same G G' → Rp X.K G' v d → Q v H') → t st H Q
structure MA (X : Cx) (es : List Expr) (f : Mo (List D)) : Prop where
  ex : ∃ t, PA X es t ∧ ∀ (c : C0) (G H : Hp) (st : L2.St) (env : VL.Env) (F : Nat → List Addr) (Q : List V → Hp → Prop) (ds : List D) (env' : VL.Env), ER X.K G H st env F → CR c G H F → f env = some (ds, env') →
    (∀ vs G' H' F', ER X.K G' H' st env' F' → CR c G' H' F' → Same G G' → RpL X.K G' vs ds → Q vs H') → t st H Q
structure MT (X : Cx) (e : Expr) (f : Mo Bool) : Prop where
  ex : ∃ t, PT X e t ∧ ∀ (c : C0) (G H : Hp) (st : L2.St) (env : VL.Env) (F : Nat → List Addr) (Q : Bool → Hp → Prop) (b : Bool) (env' : VL.Env), ER X.K G H st env F → CR c G H F → f env = some (b, env') →
    (∀ G' H' F', ER X.K G' H' st env' F' → CR c G' H' F' → Same G G' → Q b H') → t st H Q
structure MTs (X : Cx) (es : List Expr) (f : Mo Bool) : Prop where
  ex : ∃ t, PTs X es t ∧ ∀ (c : C0) (G H : Hp) (st : L2.St) (env : VL.Env) (F : Nat → List Addr) (Q : Bool → Hp → Prop) (b : Bool) (env' : VL.Env), ER X.K G H st env F → CR c G H F → f env = some (b, env') →
    (∀ G' H' F', ER X.K G' H' st env' F' → CR c G' H' F' → Same G G' → Q b H') → t st H Q
structure MW (X : Cx) (e : Expr) (f : Mo Bool) : Prop where
  ex : ∃ t, L2.PW X e t ∧ ∀ (c : C0) (G H : Hp) (st : L2.St) (env : VL.Env) (F : Nat → List Addr) (Q : Bool → Hp → Prop) (b : Bool) (env' : VL.Env), ER X.K G H st env F → CR c G H F → f env = some (b, env') →
    (∀ G' H' F', ER X.K G' H' st env' F' → CR c G' H' F' → Same G G' → Q b H') → t st H Q
/-- walks -/
structure MI (X : Cx) (tg iter : Expr) (f : Mo (List D)) : Prop where
  ex : ∃ wi, PI X tg iter wi ∧ ∀ (c : C0) (G H : Hp) (st : L2.St) (env : VL.Env) (F : Nat → List Addr) (R : It → Hp → Prop) (xs : List D) (env' : VL.Env), ER X.K G H st env F → CR c G H F → f env = some (xs, env') →
    (∀ J G1 H1 F1, ER X.K G1 H1 st env' F1 → CR c G1 H1 F1 → Same G G1 → Yl X.K G1 G1 J xs → R J H1) → wi st H R
section
variable {X : Cx} {a b e : Expr} {es : List Expr} {pos : Pos} {fa fb : Mo D} {fs : Mo (List D)} {ft fu : Mo Bool}
@[simp] def pur {α : Type} (f : VL.Env → Option α) : Mo α := fun env => (f env).map fun x => (x, env)
theorem pur_some {α : Type} {f : VL.Env → Option α} {env env' : VL.Env} {x : α} (h : pur f env = some (x, env')) : f env = some x ∧ env = env' := by
  obtain ⟨y, h1, h2⟩ := Option.map_eq_some_iff.mp (show (f env).map _ = _ from h)
  cases h2
  exact ⟨h1, rfl⟩
theorem PV.m {f : VL.Env → Option D} (h : PV X e f) : MV X e (pur f) := by
  obtain ⟨t, p, o⟩ := h.ex
  refine ⟨t, p, fun c G H st env F Q d env' r q e k => ?_⟩
  obtain ⟨e1, rfl⟩ := pur_some e
  exact o G H st env F Q d r e1 fun v G' H' x rv => k v G' H' F (r.ext x) (q.ext x) x.gg rv
theorem TB.m {f : VL.Env → Option Bool} (h : TB X e f) : MT X e (pur f) := by
  obtain ⟨t, p, o⟩ := h.ex
  refine ⟨t, p, fun c G H st env F Q d env' r q e k => ?_⟩
  obtain ⟨e1, rfl⟩ := pur_some e
  exact o G H st env F Q d r e1 fun G' H' x => k G' H' F (r.ext x) (q.ext x) x.gg
theorem AV.m {f : VL.Env → Option (List D)} (h : AV X es f) : MA X es (pur f) := by
  obtain ⟨t, p, o⟩ := h.ex
  refine ⟨t, p, fun c G H st env F Q d env' r q e k => ?_⟩
  obtain ⟨e1, rfl⟩ := pur_some e
  exact o G H st env F Q d r e1 fun v G' H' x rv => k v G' H' F (r.ext x) (q.ext x) x.gg rv
theorem IV.m {tg : Expr} {f : VL.Env → Option (List D)} (h : IV X tg e f) : MI X tg e (pur f) := by
  obtain ⟨t, p, o⟩ := h.ex
  refine ⟨t, p, fun c G H st env F Q d env' r q e k => ?_⟩
  obtain ⟨e1, rfl⟩ := pur_some e
  exact o G H st env F Q d r e1 fun J G' H' x y => k J G' H' F (r.ext x) (q.ext x) x.gg y
theorem MT.one (h : MT X e ft) : MTs X [e] ft := by
  obtain ⟨t, p, o⟩ := h.ex
  exact ⟨t, pts_one p, o⟩
theorem mts_nil : MTs X [] (pur fun _ => some true) := ⟨tYes, pts_nil, fun c G H st env F Q b env' r q e k => by cases e; exact k G H F r q (Same.refl _)⟩
@[simp] def m2 (fa fb : Mo D) (g : D → D → Option D) : Mo D := fun env => (fa env).bind fun x => (fb x.2).bind fun y => (g x.1 y.1).map fun z => (z, y.2)
theorem m2_some {g : D → D → Option D} {env env' : VL.Env} {z : D} (h : m2 fa fb g env = some (z, env')) : ∃ x e1 y, fa env = some (x, e1) ∧ fb e1 = some (y, env') ∧ g x y = some z := by
  obtain ⟨⟨x, e1⟩, h1, h⟩ := Option.bind_eq_some_iff.mp (show (fa env).bind _ = _ from h)
  obtain ⟨⟨y, e2⟩, h2, h⟩ := Option.bind_eq_some_iff.mp h
  obtain ⟨w, h3, h4⟩ := Option.map_eq_some_iff.mp h
  cases h4
  exact ⟨x, e1, y, h1, h2, h3⟩
theorem twoM {g : D → D → Option D} {r : R2} (ha : MV X a fa) (hb : MV X b fb)
    (o : ∀ (G H : Hp) (x y : V) (d e z : D) (Q : VK), Same G H → Rp X.K G x d → Rp X.K G y e → g d e = some z → (∀ v G' H', Ex G H G' H' → Rp X.K G' v z → Q v H') → r x y H Q) :
    ∃ ta tb, PE X a ta ∧ PE X b tb ∧ ∀ (c : C0) (G H : Hp) (st : L2.St) (env : VL.Env) (F : Nat → List Addr) (Q : VK) (d : D) (env' : VL.Env), ER X.K G H st env F → CR c G H F → m2 fa fb g env = some (d, env') →
      (∀ v G' H' F', ER X.K G' H' st env' F' → CR c G' H' F' → Same G G' → Rp X.K G' v d → Q v H') → tOp r ta tb st H Q := by
  obtain ⟨ta, pa, oa⟩ := ha.ex
  obtain ⟨tb, pb, ob⟩ := hb.ex
  refine ⟨ta, tb, pa, pb, fun c G H st env F Q d env' r q e k => ?_⟩
  obtain ⟨x, e1, y, h1, h2, h3⟩ := m2_some e
  refine oa c G H st env F _ x e1 r q h1 fun v1 G1 H1 F1 r1 q1 s1 rv1 => ob c G1 H1 st e1 F1 _ y env' r1 q1 h2 fun v2 G2 H2 F2 r2 q2 s2 rv2 => ?_
  exact o G2 H2 v1 v2 x y d Q r2.sub (rv1.up s2) rv2 h3 fun v G' H' x3 r3 => k v G' H' F2 (r2.ext x3) (q2.ext x3) ((s1.trans s2).trans x3.gg) r3
theorem m_op {op : Operator} {g : D → D → Option D} (ho : OpF X (binaryOp op) g) (ha : MV X a fa) (hb : MV X b fb) : MV X (.BinOp a op b pos) (m2 fa fb g) := by
  obtain ⟨r, p, o⟩ := ho
  obtain ⟨ta, tb, pa, pb, q⟩ := twoM ha hb o
  exact ⟨_, pe_op p pa pb, q⟩
theorem m_cmp {op : CmpOp} {g : D → D → Option D} (ho : OpW X (compareOp op) g) (ha : MV X a fa) (hb : MV X b fb) (hm : behindInMarks op b = false) : MV X (.Compare a [op] [b] pos) (m2 fa fb g) := by
  obtain ⟨r, p, o⟩ := ho.f
  obtain ⟨ta, tb, pa, pb, q⟩ := twoM ha hb o
  exact ⟨_, pe_cmpR p pa pb hm, q⟩
@[simp] def mtb (f : Mo D) : Mo Bool := fun env => (f env).bind fun x => (bOf x.1).map fun b => (b, x.2)
theorem mtb_some {env env' : VL.Env} {b : Bool} (h : mtb fa env = some (b, env')) : fa env = some (.bl b, env') := by
  obtain ⟨⟨x, e1⟩, h1, h⟩ := Option.bind_eq_some_iff.mp (show (fa env).bind _ = _ from h)
  obtain ⟨w, h3, h4⟩ := Option.map_eq_some_iff.mp h
  cases h4
  rw [h1, bOf_some (show bOf x = some b from h3)]
theorem mt_cmp {op : CmpOp} {g : D → D → Option D} (ho : OpW X (compareOp op) g) (ha : MV X a fa) (hb : MV X b fb) (hm : behindInMarks op b = false) : MT X (.Compare a [op] [b] pos) (mtb (m2 fa fb g)) := by
  obtain ⟨r, p, o⟩ := ho.f
  obtain ⟨ta, tb, pa, pb, q⟩ := twoM ha hb o
  refine ⟨_, pt_cmpR p pa pb hm, fun c G H st env F Q d env' r q' e k => ?_⟩
  refine q c G H st env F _ _ env' r q' (mtb_some e) fun v G' H' F' r' q2 s rv => ?_
  cases rv
  exact ⟨d, rfl, k G' H' F' r' q2 s⟩
theorem mt_val (ha : MV X a fa) (he : ∀ whole, isTrue a X.env whole = (do let v ← whole; standAt a.pos; holding [v] (truthy v)) := by intro _; rfl) : MT X a (mtb fa) := by
  obtain ⟨t, p, o⟩ := ha.ex
  refine ⟨_, pt_val p he, fun c G H st env F Q d env' r q e k => ?_⟩
  refine o c G H st env F _ _ env' r q (mtb_some e) fun v G' H' F' r' q2 s rv => ?_
  cases rv
  exact ⟨d, rfl, k G' H' F' r' q2 s⟩
theorem m_ix {k : Nat} (hr : Room k X.A) (ha : MV X a fa) (hb : MV X b fb) (hs : PlainIx b := by intro _ _; rfl) : MV X (.Subscript a b pos) (m2 fa fb dIx) := by
  obtain ⟨ta, tb, pa, pb, q⟩ := twoM (r := fun x y H Q => rIxL X.K x y H Q ∨ rIxT X.K x y H Q ∨ ∃ a v, x = .ref a ∧ DGet H a y (some v) ∧ Q v H) (g := dIx) ha hb
    fun G H x y d e z Q s rx ry q kk => ix_ok s rx (ry.up s) (fun _ _ _ => ry) q fun v r => kk v G H (Ex.refl s) r
  exact ⟨_, pe_sub (hu_of hr) pa pb hs, q⟩
/-! and, or, not, if -/
@[simp] def mAnd (f g : Mo Bool) : Mo Bool := fun env => (f env).bind fun x => if x.1 then g x.2 else some (false, x.2)
@[simp] def mOr (f g : Mo Bool) : Mo Bool := fun env => (f env).bind fun x => if x.1 then some (true, x.2) else g x.2
@[simp] def mNot (f : Mo Bool) : Mo Bool := fun env => (f env).map fun x => (!x.1, x.2)
theorem MW.t (h : MW X e ft) : MT X e ft := by
  obtain ⟨t, p, o⟩ := h.ex
  exact ⟨t, p.pt, o⟩
variable {rest : List Expr}
theorem mw_and1 (h : MT X a ft) : MW X (.BoolOp .And [a] pos) ft := by
  obtain ⟨t, p, o⟩ := h.ex
  exact ⟨t, pw_and1 p, o⟩
theorem mw_or1 (h : MT X a ft) : MW X (.BoolOp .Or [a] pos) ft := by
  obtain ⟨t, p, o⟩ := h.ex
  exact ⟨t, pw_or1 p, o⟩
theorem mw_and (h : MT X a ft) (h' : MW X (.BoolOp .And (b :: rest) pos) fu) : MW X (.BoolOp .And (a :: b :: rest) pos) (mAnd ft fu) := by
  obtain ⟨t, p, o⟩ := h.ex
  obtain ⟨t', p', o'⟩ := h'.ex
  refine ⟨_, pw_and p p', fun c G H st env F Q d env' r q e k => ?_⟩
  obtain ⟨⟨x, e1⟩, h1, h2⟩ := Option.bind_eq_some_iff.mp (show (ft env).bind _ = _ from e)
  refine o c G H st env F _ x e1 r q h1 fun G1 H1 F1 r1 q1 s1 => ?_
  cases x with
  | true => exact iteT (o' c G1 H1 st e1 F1 _ d env' r1 q1 h2 fun G2 H2 F2 r2 q2 s2 => k G2 H2 F2 r2 q2 (s1.trans s2))
  | false => cases h2; exact iteF (k G1 H1 F1 r1 q1 s1)
theorem mw_or (h : MT X a ft) (h' : MW X (.BoolOp .Or (b :: rest) pos) fu) : MW X (.BoolOp .Or (a :: b :: rest) pos) (mOr ft fu) := by
  obtain ⟨t, p, o⟩ := h.ex
  obtain ⟨t', p', o'⟩ := h'.ex
  refine ⟨_, pw_or p p', fun c G H st env F Q d env' r q e k => ?_⟩
  obtain ⟨⟨x, e1⟩, h1, h2⟩ := Option.bind_eq_some_iff.mp (show (ft env).bind _ = _ from e)
  refine o c G H st env F _ x e1 r q h1 fun G1 H1 F1 r1 q1 s1 => ?_
  cases x with
  | true => cases h2; exact iteT (k G1 H1 F1 r1 q1 s1)
  | false => exact iteF (o' c G1 H1 st e1 F1 _ d env' r1 q1 h2 fun G2 H2 F2 r2 q2 s2 => k G2 H2 F2 r2 q2 (s1.trans s2))
theorem mt_not (h : MT X a ft) : MT X (.UnaryOp .Not a pos) (mNot ft) := by
  obtain ⟨t, p, o⟩ := h.ex
  refine ⟨_, pt_not p, fun c G H st env F Q d env' r q e k => ?_⟩
  obtain ⟨⟨x, e1⟩, h1, h2⟩ := Option.map_eq_some_iff.mp (show (ft env).map _ = _ from e)
  cases h2
  exact o c G H st env F _ x e1 r q h1 fun G1 H1 F1 r1 q1 s1 => k G1 H1 F1 r1 q1 s1
@[simp] def mIf (c : Mo Bool) (f g : Mo D) : Mo D := fun env => (c env).bind fun x => if x.1 then f x.2 else g x.2
theorem m_if {cnd : Expr} (hc : MT X cnd ft) (ha : MV X a fa) (hb : MV X b fb) : MV X (.IfExp cnd a b pos) (mIf ft fa fb) := by
  obtain ⟨tc, pc, oc⟩ := hc.ex
  obtain ⟨t, p, o⟩ := ha.ex
  obtain ⟨t', p', o'⟩ := hb.ex
  refine ⟨_, pe_ifExp pc p p', fun c G H st env F Q d env' r q e k => ?_⟩
  obtain ⟨⟨x, e1⟩, h1, h2⟩ := Option.bind_eq_some_iff.mp (show (ft env).bind _ = _ from e)
  refine oc c G H st env F _ x e1 r q h1 fun G1 H1 F1 r1 q1 s1 => ?_
  cases x with
  | true => exact iteT (o c G1 H1 st e1 F1 _ d env' r1 q1 h2 fun v G2 H2 F2 r2 q2 s2 rv => k v G2 H2 F2 r2 q2 (s1.trans s2) rv)
  | false => exact iteF (o' c G1 H1 st e1 F1 _ d env' r1 q1 h2 fun v G2 H2 F2 r2 q2 s2 rv => k v G2 H2 F2 r2 q2 (s1.trans s2) rv)
/-! arguments, displays -/
@[simp] def maC (f : Mo D) (g : Mo (List D)) : Mo (List D) := fun env => (f env).bind fun x => (g x.2).map fun y => (x.1 :: y.1, y.2)
theorem ma_nil : MA X [] (pur fun _ => some []) := (a_nil (X := X)).m
theorem ma_cons (h : MV X e fa) (hr : MA X es fs) (hs : starEach (e :: es) X.env = (false, eval e X.env) :: starEach es X.env := by rfl) : MA X (e :: es) (maC fa fs) := by
  obtain ⟨t, p, o⟩ := h.ex
  obtain ⟨t', p', o'⟩ := hr.ex
  refine ⟨_, pa_cons p p' hs, fun c G H st env F Q ds env' r q e k => ?_⟩
  obtain ⟨⟨x, e1⟩, h1, h2⟩ := Option.bind_eq_some_iff.mp (show (fa env).bind _ = _ from e)
  obtain ⟨⟨y, e2⟩, h3, h4⟩ := Option.map_eq_some_iff.mp h2
  cases h4
  exact o c G H st env F _ x e1 r q h1 fun v G1 H1 F1 r1 q1 s1 rv => o' c G1 H1 st e1 F1 _ y e2 r1 q1 h3 fun vs G2 H2 F2 r2 q2 s2 rvs => k _ G2 H2 F2 r2 q2 (s1.trans s2) (.cons (rv.up s2) rvs)
@[simp] def mLst (f : Mo (List D)) : Mo D := fun env => (f env).bind fun x => if x.1.length < 1000 then some (.lst x.1, x.2) else none
@[simp] def mTup (f : Mo (List D)) : Mo D := fun env => (f env).bind fun x => if x.1.length < 1000 then some (.tup x.1, x.2) else none
theorem m_lst (h : MA X es fs) : MV X (.List es pos) (mLst fs) := by
  obtain ⟨t, p, o⟩ := h.ex
  refine ⟨_, pe_lst p, fun c G H st env F Q d env' r q e k => ?_⟩
  obtain ⟨⟨x, e1⟩, h1, h2⟩ := Option.bind_eq_some_iff.mp (show (fs env).bind _ = _ from e)
  dsimp only at h2
  split at h2
  · rename_i hl
    cases h2
    refine o c G H st env F _ x env' r q h1 fun vs G1 H1 F1 r1 q1 s1 rv => ⟨small_line (by rw [rv.length]; exact hl), fun p np => ?_⟩
    have x2 := Ex.frz (o := .lst vs) r1.sub np
    exact k _ _ _ F1 (r1.ext x2) (q1.ext x2) (s1.trans x2.gg) (.lst upd_same (rv.up x2.gg))
  · cases h2
theorem m_tup {x1} (h : MA X es fs) : MV X (.Tuple es x1 pos) (mTup fs) := by
  obtain ⟨t, p, o⟩ := h.ex
  refine ⟨_, pe_tup p, fun c G H st env F Q d env' r q e k => ?_⟩
  obtain ⟨⟨x, e1⟩, h1, h2⟩ := Option.bind_eq_some_iff.mp (show (fs env).bind _ = _ from e)
  dsimp only at h2
  split at h2
  · rename_i hl
    cases h2
    refine o c G H st env F _ x env' r q h1 fun vs G1 H1 F1 r1 q1 s1 rv => ⟨small_line (by rw [rv.length]; exact hl), fun p np => ?_⟩
    have x2 := Ex.frz (o := .tup vs) r1.sub np
    exact k _ _ _ F1 (r1.ext x2) (q1.ext x2) (s1.trans x2.gg) (.tup upd_same (rv.up x2.gg))
  · cases h2
/-! calls -/
variable {x : Str} {p : Pos} {id : String}
@[simp] def mB {β : Type} (fs : Mo (List D)) (g : List D → Option β) : Mo β := fun env => (fs env).bind fun x => (g x.1).map fun z => (z, x.2)
theorem mB_some {β : Type} {g : List D → Option β} {env env' : VL.Env} {z : β} (h : mB fs g env = some (z, env')) : ∃ ds, fs env = some (ds, env') ∧ g ds = some z := by
  obtain ⟨⟨x, e1⟩, h1, h⟩ := Option.bind_eq_some_iff.mp (show (fs env).bind _ = _ from h)
  obtain ⟨w, h3, h4⟩ := Option.map_eq_some_iff.mp h
  cases h4
  exact ⟨x, h1, h3⟩
theorem m_callB {g : List D → Option D} (hc : CallW X (.builtin id) g) (hg : Gl X x) (hm : X.mg x = none) (hv : bootBuiltins x = some (.builtin id)) (ha : MA X (e :: es) fs) (hn : x ≠ "__name__" := by decide) (hdb : (x == ("__debug__" : Str)) = false := by decide)
    (he : starEach (e :: es) X.env = (false, eval e X.env) :: starEach es X.env := by rfl) (hpl : (backTo pos (starEach es X.env)).any (·.1) = false := by rfl) : MV X (.Call (.Name x p) (e :: es) [] pos) (mB fs g) := by
  obtain ⟨r, hr, o⟩ := hc
  obtain ⟨t, pa, oa⟩ := ha.ex
  refine ⟨_, pe_callB hr hg hm hv pa hn hdb he hpl, fun c G H st env F Q d env' r q e k => ?_⟩
  obtain ⟨ds, e1, e2⟩ := mB_some e
  exact oa c G H st env F _ _ env' r q e1 fun vs G1 H1 F1 r1 q1 s1 rv => o G1 H1 vs ds d Q r1.sub (rv.up r1.sub) e2 fun v G' H' x2 r2 => k v G' H' F1 (r1.ext x2) (q1.ext x2) (s1.trans x2.gg) r2
theorem m_callT {g : List D → Option D} (hc : CallW X (.type id) g) (hg : Gl X x) (hm : X.mg x = none) (hv : bootBuiltins x = some (.type id)) (ha : MA X (e :: es) fs) (hn : x ≠ "__name__" := by decide) (hdb : (x == ("__debug__" : Str)) = false := by decide)
    (he : starEach (e :: es) X.env = (false, eval e X.env) :: starEach es X.env := by rfl) (hpl : (backTo pos (starEach es X.env)).any (·.1) = false := by rfl) : MV X (.Call (.Name x p) (e :: es) [] pos) (mB fs g) := by
  obtain ⟨r, hr, o⟩ := hc
  obtain ⟨t, pa, oa⟩ := ha.ex
  refine ⟨_, pe_callTy hr hg hm hv pa hn hdb he hpl, fun c G H st env F Q d env' r q e k => ?_⟩
  obtain ⟨ds, e1, e2⟩ := mB_some e
  exact oa c G H st env F _ _ env' r q e1 fun vs G1 H1 F1 r1 q1 s1 rv => o G1 H1 vs ds d Q r1.sub (rv.up r1.sub) e2 fun v G' H' x2 r2 => k v G' H' F1 (r1.ext x2) (q1.ext x2) (s1.trans x2.gg) r2
variable {kk : Nat} {f : Addr} {fd : FuncData} {ps : List Str} {Fn : List D → Option S}
theorem m_call (F : FnOk X.prog X.w X.K X.mg X.base CX0 kk f fd ps (spS X.K Fn)) (hr : Room kk X.A) (hg : Gl X x) (hm : X.mg x = some (.ref f)) (hk : PySem.W.keepIn X.K (.ref f) = true) (hb : Binds X.K fd ps [])
    (ha : MA X (e :: es) fs) (hdb : (x == ("__debug__" : Str)) = false := by decide) (he : starEach (e :: es) X.env = (false, eval e X.env) :: starEach es X.env := by rfl) (hpl : (backTo pos (starEach es X.env)).any (·.1) = false := by rfl) :
    MV X (.Call (.Name x p) (e :: es) [] pos) (mB fs fun ds => (Fn ds).bind frS) := by
  obtain ⟨t, pa, o⟩ := ha.ex
  refine ⟨_, pe_call F hr hg hm hk hb .nil pass0 pa hdb he hpl, fun c G H st env F' Q d env' r q e k => ?_⟩
  obtain ⟨ds, e1, e'⟩ := mB_some e
  obtain ⟨s, e2, e3⟩ := Option.bind_eq_some_iff.mp e'
  obtain ⟨n, rfl⟩ := frS_some e3
  refine o c G H st env F' _ _ env' r q e1 fun vs G1 H1 F1 r1 q1 s1 rv => ⟨G1, ds, s, r1.sub, by rw [List.append_nil]; exact rv, e2, fun v G' H' l x2 sl nd fr => ?_⟩
  have x3 := frzG_ex x2 fr
  exact k v _ H' F1 (r1.ext x3) (q1.ext x3) (s1.trans x3.gg) (frzG_rp sl n fun a m => (fr a m).2)
/-- what stands at an owned slot is handed in and changed: its address is told -/
def spI (K : PySem.W.Frag) (Fi : Addr → S → List D → Option (D × S)) : Sp := fun vs H Q _ => ∃ G p ws s0 l0 ds d s1, Same G H ∧ vs = .ref p :: ws ∧ SlR K G H (.ref p) s0 l0 ∧ l0.Nodup ∧ (∀ a ∈ l0, G a = none) ∧ RpL K G ws ds ∧ Fi p s0 ds = some (d, s1) ∧
  ∀ v G' H' l1, Same G G' → Same G' H' → (∀ b o, H b = some o → b ∉ l0 → H' b = some o) → (∀ b, G' b ≠ none → G b ≠ none ∨ H b = none ∨ b ∈ l0) → SlR K G' H' (.ref p) s1 l1 → l1.Nodup → (∀ a ∈ l1, G' a = none ∧ (a ∈ l0 ∨ H a = none)) → Rp K G' v d → Q v H'
def atOf : S → Option (Addr × S)
  | .at a s => some (a, s)
  | _ => none
@[simp] theorem atOf_at (a : Addr) (s : S) : atOf (.at a s) = some (a, s) := rfl
theorem atOf_some {z s : S} {a : Addr} (h : atOf z = some (a, s)) : z = .at a s := by
  cases z <;> first | (cases h; rfl) | cases h
@[simp] def mI (i : Nat) (fs : Mo (List D)) (Fi : Addr → S → List D → Option (D × S)) : Mo D := fun env => (getS env i).bind fun _ => (fs env).bind fun x => (getS x.2 i).bind fun z => (atOf z).bind fun s => (Fi s.1 s.2 x.1).map fun z => (z.1, x.2.set i (some (.at s.1 z.2)))
theorem ER.after {K : PySem.W.Frag} {G H G' H' : Hp} {st : L2.St} {env : VL.Env} {F : Nat → List Addr} {i : Nat} {v : V} {s : S} {l : List Addr} (r : ER K G H st env F) (hv : st[i]? = some (some v)) (gg : Same G G') (gh : Same G' H')
    (kp : ∀ b o, H b = some o → b ∉ F i → H' b = some o) (gn : ∀ b, G' b ≠ none → G b ≠ none ∨ H b = none ∨ b ∈ F i) (h : SlR K G' H' v s l) (nd : l.Nodup) (hl : ∀ a ∈ l, G' a = none ∧ (a ∈ F i ∨ H a = none)) :
    ER K G' H' st (env.set i (some s)) (putFp F i l) := by
  have hi : i < env.length := by rw [r.len]; exact (List.getElem?_eq_some_iff.mp hv).1
  have dis : ∀ j, j ≠ i → ∀ a ∈ l, a ∉ F j := fun j ne a m m' => by
    rcases (hl a m).2 with z | z
    · exact ne (r.dj j i a m' z)
    · obtain ⟨o, q⟩ := r.dom m'
      rw [z] at q; cases q
  have g0 : ∀ j, j ≠ i → ∀ a ∈ F j, G' a = none := fun j ne a m => by
    cases z : G' a with
    | none => rfl
    | some o =>
      rcases gn a (by rw [z]; exact fun q => nomatch q) with q | q | q
      · exact absurd (r.off j a m) q
      · obtain ⟨u, q'⟩ := r.dom m
        rw [q] at q'; cases q'
      · exact absurd (r.dj j i a m q) ne
  refine ⟨gh, by rw [List.length_set]; exact r.len, fun j t e => ?_, fun j hj => ?_, fun j a m => ?_, fun j => ?_, fun j k a m m' => ?_⟩
  · rcases get_set e with ⟨rfl, _, e⟩ | ⟨ne, e⟩
    · cases e
      refine ⟨v, hv, ?_⟩
      unfold putFp; rw [if_pos rfl]; exact h
    · obtain ⟨w, h1, h2⟩ := r.slot j t e
      refine ⟨w, h1, ?_⟩
      unfold putFp; rw [if_neg ne]
      refine SlR.mono gg t w _ (fun a m => ?_) h2
      obtain ⟨o, z⟩ := r.dom m
      rw [z]; exact kp a o z fun q => ne (r.dj j i a m q)
  · unfold putFp
    by_cases c : j = i
    · subst c; exact absurd (List.getElem?_set_self hi) (hj s)
    · rw [if_neg c]
      exact r.out j fun t e => hj t (by rw [List.getElem?_set_ne (Ne.symm c)]; exact e)
  · unfold putFp at m
    split at m
    · exact (hl a m).1
    · rename_i c; exact g0 j c a m
  · unfold putFp
    split
    · exact nd
    · exact r.nd j
  · unfold putFp at m m'
    split at m <;> split at m'
    · rename_i c c'; rw [c, c']
    · rename_i c c'; exact absurd m' (dis k c' a m)
    · rename_i c c'; exact absurd m (dis j c a m')
    · exact r.dj j k a m m'
theorem CR.after {c : C0} {G H G' H' : Hp} {F : Nat → List Addr} {i : Nat} {l : List Addr} (q : CR c G H F) (gg : Same G G') (kp : ∀ b o, H b = some o → b ∉ F i → H' b = some o)
    (gn : ∀ b, G' b ≠ none → G b ≠ none ∨ H b = none ∨ b ∈ F i) (hl : ∀ a ∈ l, a ∈ F i ∨ H a = none) : CR c G' H' (putFp F i l) := by
  refine ⟨q.g0.trans gg, fun b e => ?_, fun b o e z => ?_, fun j a m => ?_⟩
  · rcases gn b e with h | h | h
    · exact q.gnew b h
    · exact .inr (q.new h)
    · exact .inr (q.own i b h)
  · refine kp b o (q.keep b o e z) fun m => ?_
    rcases q.own i b m with h | h
    · rw [h] at e; cases e
    · exact z h
  · unfold putFp at m
    split at m
    · rcases hl a m with h | h
      · exact q.own i a h
      · exact q.new h
    · exact q.own j a m
theorem m_inout {Fi : Addr → S → List D → Option (D × S)} (i : Nat) {y : Str} {ypos : Pos} (F : FnOk X.prog X.w X.K X.mg X.base CX0 kk f fd ps (spI X.K Fi)) (hr : Room kk X.A) (hg : Gl X x) (hm : X.mg x = some (.ref f)) (hk : PySem.W.keepIn X.K (.ref f) = true) (hb : Binds X.K fd ps [])
    (ha : MA X es fs) (hN : X.N[i]? = some y := by rfl) (hv : Vis X.env.scope y := by first | exact Or.inl rfl | exact Or.inr (Or.inl rfl) | exact Or.inr (Or.inr rfl))
    (hd : (y == ("__debug__" : Str)) = false := by decide) (hcd : (y == ("__classdict__" : Str)) = false := by decide)
    (hdb : (x == ("__debug__" : Str)) = false := by decide) (he : starEach (.Name y ypos :: es) X.env = (false, eval (.Name y ypos) X.env) :: starEach es X.env := by rfl) (hpl : (backTo pos (starEach es X.env)).any (·.1) = false := by rfl) :
    MV X (.Call (.Name x p) (.Name y ypos :: es) [] pos) (mI i fs Fi) := by
  obtain ⟨t, pa, o⟩ := ha.ex
  refine ⟨_, pe_call F hr hg hm hk hb .nil pass0 (pa_cons (pe_var hN hv hd hcd) pa he) hdb he hpl, fun c G H st env F' Q d env' r q e k => ?_⟩
  obtain ⟨s', h0, e⟩ := Option.bind_eq_some_iff.mp (show (getS env i).bind _ = _ from e)
  obtain ⟨⟨ds, e1⟩, h1, e⟩ := Option.bind_eq_some_iff.mp e
  obtain ⟨zz, h2, e⟩ := Option.bind_eq_some_iff.mp e
  obtain ⟨⟨pp, s⟩, h2', e⟩ := Option.bind_eq_some_iff.mp e
  obtain rfl := atOf_some h2'
  obtain ⟨⟨z, s1⟩, h3, h4⟩ := Option.map_eq_some_iff.mp e
  cases h4
  obtain ⟨v, hv', _⟩ := r.slot i s' (getS_some h0)
  refine ⟨v, hv', o c G H st env F' _ ds e1 r q h1 fun vs G1 H1 F1 r1 q1 s1' rv => ?_⟩
  obtain ⟨v', h5, h6⟩ := r1.slot i _ (getS_some h2)
  rw [hv'] at h5
  cases h5
  have nd1 := r1.nd i
  have of1 := r1.off i
  have hsub : ∀ a, a ∈ F1 i → a ∈ F1 i := fun _ m => m
  generalize hFi : F1 i = Fi1 at h6 nd1 of1
  cases h6 with
  | «at» h6 =>
    subst hFi
    refine ⟨G1, pp, vs, s, F1 i, ds, z, s1, r1.sub, by rw [List.append_nil], h6, nd1, of1, rv, h3, fun w G' H' l1 gg gh kp gn sl nd hl rw' => ?_⟩
    exact k w G' H' _ (r1.after hv' gg gh kp gn (.at sl) nd hl) (q1.after gg kp gn fun a m => (hl a m).2) (s1'.trans gg) rw'
end
end VL

set_option Elab.async false
set_option linter.all false
set_option maxRecDepth 100000
/-! VL9: comprehensions and statements with draws; dicts; extend. -/
namespace VL
open PySem PySem.Spec PyProof.Rows L2
def cEM (K : PySem.W.Frag) (f : Mo D) : TE := fun st H Q => ∃ c G env F d env', ER K G H st env F ∧ CR c G H F ∧ f env = some (d, env') ∧
  ∀ v G' H' F', ER K G' H' st env' F' → CR c G' H' F' → Same G G' → Rp K G' v d → Q v H'
def cTM (K : PySem.W.Frag) (f : Mo Bool) : TT := fun st H Q => ∃ c G env F d env', ER K G H st env F ∧ CR c G H F ∧ f env = some (d, env') ∧
  ∀ G' H' F', ER K G' H' st env' F' → CR c G' H' F' → Same G G' → Q d H'
section
variable {K : PySem.W.Frag} {c : C0} {G H : Hp} {st : L2.St} {env : VL.Env} {F : Nat → List Addr} {p : Addr} {o : HO}
theorem ER.other (r : ER K G H st env F) (g : G p = none) (n : ∀ i, p ∉ F i) : ER K G (L2.upd H p o) st env F := by
  refine ⟨fun b u e => by rw [upd_ne (ne_of_none e g)]; exact r.sub _ _ e, r.len, fun i s e => ?_, r.out, r.off, r.nd, r.dj⟩
  obtain ⟨v, h1, h2⟩ := r.slot i s e
  exact ⟨v, h1, SlR.mono (Same.refl _) s v _ (fun a m => upd_ne fun z => n i (by rw [← z]; exact m)) h2⟩
theorem CR.other (q : CR c G H F) (h : c.H p = none ∨ c.O p) : CR c G (L2.upd H p o) F := by
  refine ⟨q.g0, q.gnew, fun b u e z => ?_, q.own⟩
  have : b ≠ p := fun w => by
    subst w
    rcases h with h | h
    · rw [h] at e; cases e
    · exact z h
  rw [upd_ne this]
  exact q.keep b u e z
theorem ER.frz1 (r : ER K G H st env F) (g : G p = none) (n : ∀ i, p ∉ F i) : ER K (frzG G H [p]) H st env F := by
  have up := frzG_up (G := G) (H := H) (l := [p]) fun a m => by cases List.mem_singleton.mp m; exact g
  refine ⟨frzG_in r.sub, r.len, fun i s e => ?_, r.out, fun i a m => ?_, r.nd, r.dj⟩
  · obtain ⟨v, h1, h2⟩ := r.slot i s e
    exact ⟨v, h1, SlR.mono up s v _ (fun _ _ => rfl) h2⟩
  · unfold frzG
    rw [if_neg fun z => n i (by rw [← List.mem_singleton.mp z]; exact m)]
    exact r.off i a m
theorem CR.frz1 (q : CR c G H F) (h : c.H p = none ∨ c.O p) (g : G p = none) : CR c (frzG G H [p]) H F := by
  refine ⟨q.g0.trans (frzG_up fun a m => by cases List.mem_singleton.mp m; exact g), fun b e => ?_, q.keep, q.own⟩
  unfold frzG at e
  split at e
  · rename_i m; cases List.mem_singleton.mp m; exact .inr h
  · exact q.gnew b e
theorem ER.unwipe {vs : List Nat} (r : ER K G H (L2.wipe st vs) env F) : ER K G H st env F := by
  refine ⟨r.sub, by rw [r.len, wipe_length], fun i s e => ?_, r.out, r.off, r.nd, r.dj⟩
  obtain ⟨v, h1, h2⟩ := r.slot i s e
  exact ⟨v, (wipe_some h1).1, h2⟩
theorem CR.out (q : CR (VL.re G H F) G' H' F') (n : ∀ i, p ∉ F i) (h : H p = some o) (g : G p = none) : H' p = some o ∧ G' p = none ∧ ∀ i, p ∉ F' i := by
  refine ⟨q.keep p o h fun ⟨i, m⟩ => n i m, ?_, fun i m => ?_⟩
  · cases z : G' p with
    | none => rfl
    | some u =>
      rcases q.gnew p (by rw [z]; exact fun w => nomatch w) with w | w | ⟨i, m⟩
      · exact absurd g w
      · exact absurd (h.symm.trans w) (fun z => nomatch z)
      · exact absurd m (n i)
  · rcases q.own i p m with w | ⟨j, m'⟩
    · exact absurd (h.symm.trans w) (fun z => nomatch z)
    · exact n j m'
end
section
variable {X : Cx} {pos : Pos}
theorem MV.c {e : Expr} {f : Mo D} (h : MV X e f) : PE X e (cEM X.K f) := by
  obtain ⟨t, p, o⟩ := h.ex
  exact ⟨fun pins s st H Q I ⟨c, G, env, F, d, env', r, q, e, k⟩ => p.run pins s st H Q I (o c G H st env F Q d env' r q e k)⟩
theorem MTs.c {e : List Expr} {f : Mo Bool} (h : MTs X e f) : PTs X e (cTM X.K f) := by
  obtain ⟨t, p, o⟩ := h.ex
  exact ⟨fun pins s st H Q I ⟨c, G, env, F, d, env', r, q, e, k⟩ => p.run pins s st H Q I (o c G H st env F Q d env' r q e k)⟩
def compM (vs : List Nat) (ft : D → VL.Env → Option VL.Env) (fc : Mo Bool) (fe : Mo D) : List D → VL.Env → Option (List D × VL.Env)
  | [], env => some ([], env)
  | d :: ds, env => (ft d env).bind fun e1 => (fc e1).bind fun b => if b.1 then (fe b.2).bind fun y => (compM vs ft fc fe ds (wipeE y.2 vs)).map fun z => (y.1 :: z.1, z.2) else compM vs ft fc fe ds (wipeE b.2 vs)
def OkLM (K : PySem.W.Frag) (f : Mo (List D)) (t : TE) : Prop := ∀ (c : C0) (G H : Hp) (st : L2.St) (env : VL.Env) (F : Nat → List Addr) (Q : VK) (ds : List D) (env' : VL.Env), ER K G H st env F → CR c G H F → f env = some (ds, env') →
  (∀ p vs G' H' F', ER K G' H' st env' F' → CR c G' H' F' → Same G G' → (∀ i, p ∉ F' i) → G' p = none → (c.H p = none ∨ c.O p) → H' p = some (.lst vs) → RpL K G' vs ds → Q (.ref p) H') → t st H Q
theorem lcm_ok {K : PySem.W.Frag} {wi : TI} {fi : Mo (List D)} {ts vs : List Nat} {ft : D → VL.Env → Option VL.Env} {fc : Mo Bool} {fe : Mo D}
    (hi : ∀ (c : C0) (G H : Hp) (st : L2.St) (env : VL.Env) (F : Nat → List Addr) (R : It → Hp → Prop) (xs : List D) (env' : VL.Env), ER K G H st env F → CR c G H F → fi env = some (xs, env') →
      (∀ J G1 H1 F1, ER K G1 H1 st env' F1 → CR c G1 H1 F1 → Same G G1 → Yl K G1 G1 J xs → R J H1) → wi st H R)
    (hts : ∀ i ∈ ts, i ∈ vs) : OkLM K (fun env => (fi env).bind fun x => compM vs ft fc fe x.1 (wipeE x.2 vs)) (tLc wi (cG K ts ft) (cTM K fc) (cEM K fe) vs) := by
  intro c G H st env F Q ys env' r q e k
  obtain ⟨⟨xs, env1⟩, e1, e2⟩ := Option.bind_eq_some_iff.mp (show (fi env).bind _ = _ from e)
  refine hi c G H st env F _ xs env1 r q e1 fun J G1 H1 F1 r1 q1 s1 y => fun Dp hD => ?_
  have cD := q1.new hD
  have xD := Ex.own (o := .lst []) r1.sub hD
  obtain ⟨Fw, rw', sw⟩ := ER.wipe (r1.ext xD) vs
  refine ⟨fun i m Hc => m = xs.length - i ∧ i ≤ xs.length ∧ ∃ Gc Fc envc acc accD rest, ER K Gc Hc (L2.wipe st vs) envc Fc ∧ CR c Gc Hc Fc ∧ Same G1 Gc ∧ Gc Dp = none ∧ Hc Dp = some (.lst acc) ∧ (∀ i, Dp ∉ Fc i) ∧ RpL K Gc acc accD ∧ acc.length ≤ i ∧
    compM vs ft fc fe (xs.drop i) envc = some (rest, env') ∧ accD ++ rest = ys, ⟨xs.length, rfl, Nat.zero_le _, G1, Fw, wipeE env1 vs, [], [], ys, rw', (q1.ext xD).sub sw, Same.refl _, r1.sub.free hD, upd_same, fun i m => ?_, .nil, Nat.le_refl _, e2, rfl⟩, ?_⟩
  · obtain ⟨o, z⟩ := r1.dom (sw i _ m)
    rw [hD] at z; cases z
  rintro i m Hc ⟨em, hi', Gc, Fc, envc, acc, accD, rest, rc, qc, sc, gD, hDc, nD, lc, la, ec, ea⟩
  by_cases hlt : i < xs.length
  · have ed : xs.drop i = xs[i] :: xs.drop (i + 1) := List.drop_eq_getElem_cons hlt
    rw [ed] at ec
    obtain ⟨e1', t1, ec⟩ := Option.bind_eq_some_iff.mp (show (ft xs[i] envc).bind _ = _ from ec)
    obtain ⟨⟨b, e2'⟩, t2, ec⟩ := Option.bind_eq_some_iff.mp ec
    obtain ⟨go, hy⟩ := y.step i Gc Hc sc (sc.trans rc.sub) rc.sub xs[i] (List.getElem?_eq_getElem hlt)
    refine .inr ⟨go, _, fun H' h' => ⟨xs.length - (i + 1), by omega, rfl, hlt, h'⟩, fun v H3 hv => ?_⟩
    obtain ⟨G3, x3, rv⟩ := hy v H3 hv
    have r3 := rc.ext x3
    have q3 := qc.ext x3
    refine ⟨G3, envc, Fc, xs[i], e1', r3, rv, t1, fun st' F' r' sb w' => ?_⟩
    have ws : L2.wipe st' vs = L2.wipe st vs := by rw [w' vs hts, wipe_idem]
    have g3 : G3 Dp = none := ex_none x3 gD hDc
    have h3 : H3 Dp = some (.lst acc) := x3.hh _ _ hDc
    have n3 : ∀ i, Dp ∉ F' i := fun i m => nD i (sb i _ m)
    have q3' := q3.sub sb
    refine ⟨ws, VL.re G3 H3 F', G3, e1', F', b, e2', r', .re, t2, fun G4 H4 F4 r4 q4 s4 => ?_⟩
    obtain ⟨h4, g4, n4⟩ := q4.out n3 h3 g3
    have qq4 := q3'.trans q4
    cases b with
    | true =>
      obtain ⟨⟨yv, e3'⟩, t3, ec⟩ := Option.bind_eq_some_iff.mp (show (fe e2').bind _ = _ from ec)
      obtain ⟨⟨rest', env''⟩, t4, t5⟩ := Option.map_eq_some_iff.mp ec
      cases t5
      refine iteT ⟨VL.re G4 H4 F4, G4, e2', F4, yv, e3', r4, .re, t3, fun u G5 H5 F5 r5 q5 s5 ru => ?_⟩
      obtain ⟨h5, g5, n5⟩ := q5.out n4 h4 g4
      have qq5 := qq4.trans q5
      obtain ⟨F6, r6, s6⟩ := ER.wipe r5 vs
      rw [ws] at r6
      have n6 : ∀ i, Dp ∉ F6 i := fun i m => n5 i (s6 i _ m)
      refine ⟨acc, h5, Nat.lt_of_le_of_lt la (Nat.lt_of_lt_of_le hlt y.len), G5, F6, wipeE e3' vs, acc ++ [u], accD ++ [yv], rest', r6.other g5 n6, (qq5.sub s6).other cD, ((sc.trans x3.gg).trans s4).trans s5, g5, upd_same, n6, (lc.up ((x3.gg.trans s4).trans s5)).append (.cons ru .nil), ?_, t4, ?_⟩
      · rw [List.length_append, List.length_singleton]; omega
      · rw [List.append_assoc]; exact ea
    | false =>
      obtain ⟨F6, r6, s6⟩ := ER.wipe r4 vs
      rw [ws] at r6
      exact iteF ⟨G4, F6, wipeE e2' vs, acc, accD, rest, r6, qq4.sub s6, (sc.trans x3.gg).trans s4, g4, h4, fun i m => n4 i (s6 i _ m), lc.up (x3.gg.trans s4), by omega, ec, ea⟩
  · have ei : i = xs.length := by omega
    refine .inl ⟨y.stop i Gc Hc sc (sc.trans rc.sub) rc.sub ei, ?_⟩
    rw [List.drop_eq_nil_of_le (by omega)] at ec
    cases ec
    rw [List.append_nil] at ea
    subst ea
    exact k Dp acc Gc Hc Fc rc.unwipe qc (s1.trans sc) nD gD cD hDc lc
theorem okLM_v {K : PySem.W.Frag} {f : Mo (List D)} {t : TE} (h : OkLM K f t) : ∀ (c : C0) (G H : Hp) (st : L2.St) (env : VL.Env) (F : Nat → List Addr) (Q : VK) (d : D) (env' : VL.Env), ER K G H st env F → CR c G H F → ((f env).map fun x => (D.lst x.1, x.2)) = some (d, env') →
    (∀ v G' H' F', ER K G' H' st env' F' → CR c G' H' F' → Same G G' → Rp K G' v d → Q v H') → t st H Q := fun c G H st env F Q d env' r q e k => by
  obtain ⟨⟨ds, e1⟩, h1, h2⟩ := Option.map_eq_some_iff.mp e
  cases h2
  refine h c G H st env F Q ds _ r q h1 fun p vs G' H' F' r' q' s n g cp hp l => ?_
  have up := frzG_up (G := G') (H := H') (l := [p]) fun a m => by cases List.mem_singleton.mp m; exact g
  exact k _ _ _ F' (r'.frz1 g n) (q'.frz1 cp g) (s.trans up) (.lst (by unfold frzG; rw [if_pos (List.mem_singleton.mpr rfl)]; exact hp) (l.up up))
variable {elt tg iter : Expr} {ifs : List Expr} {scope : Scope} {own : List (Str × Nat)} {fi : Mo (List D)} {ts : List Nat} {ft : D → VL.Env → Option VL.Env} {fc : Mo Bool} {fe : Mo D}
@[simp] def mComp (vs : List Nat) (fi : Mo (List D)) (ft : D → VL.Env → Option VL.Env) (fc : Mo Bool) (fe : Mo D) : Mo D := fun env => ((fi env).bind fun x => compM vs ft fc fe x.1 (wipeE x.2 vs)).map fun x => (D.lst x.1, x.2)
theorem m_comp (hc : X.calm = true) (hN : X.N.Nodup) (hi : MI X tg iter fi) (ok : BlkOk X.N X.env.scope scope own) (hts : ∀ i ∈ ts, i ∈ own.map (·.2))
    (hg : ∀ (s : Shared) (H : Hp) (C : Addr) (cl : List (Str × Addr)) (fp : List Addr), TG1 (X.blk s H scope (compEnvC scope cl C X.env) fp) tg ts ft)
    (ht : ∀ (s : Shared) (H : Hp) (C : Addr) (cl : List (Str × Addr)) (fp : List Addr), MTs (X.blk s H scope (compEnvC scope cl C X.env) fp) ifs fc)
    (he : ∀ (s : Shared) (H : Hp) (C : Addr) (cl : List (Str × Addr)) (fp : List Addr), MV (X.blk s H scope (compEnvC scope cl C X.env) fp) elt fe) (hs : ∀ x, foldedSetIterable iter X.env x = pure x := by intro _; rfl) :
    MV X (.ListComp elt [⟨tg, iter, ifs, 0⟩] scope pos) (mComp (own.map (·.2)) fi ft fc fe) := by
  obtain ⟨wi, p, o⟩ := hi.ex
  exact ⟨_, pe_lc hc hN p ok (fun s H C cl fp => (hg s H C cl fp).c) (fun s H C cl fp => (ht s H C cl fp).c) (fun s H C cl fp => (he s H C cl fp).c) hs, okLM_v (lcm_ok o hts)⟩
/-! ranges with draws -/
theorem mi_range1 {a : Expr} {p : Pos} {fs : Mo (List D)} (hg : Gl X "range") (hm : X.mg "range" = none) (ha : MA X [a] fs) (hs : starEach [a] X.env = [(false, eval a X.env)] := by rfl) : MI X tg (.Call (.Name "range" p) [a] [] pos) (mB fs rng1) := by
  obtain ⟨t, pa, o⟩ := ha.ex
  refine ⟨_, pi_range1 hg hm pa hs, fun c G H st env F R xs env' r q e k => ?_⟩
  obtain ⟨ds, e1, e2⟩ := mB_some e
  unfold rng1 at e2
  split at e2
  · rename_i n
    split at e2
    · rename_i hn
      cases e2
      refine o c G H st env F _ _ env' r q e1 fun vs G1 H1 F1 r1 q1 s1 rv => ?_
      cases rv with
      | cons r2 r3 =>
        cases r3; cases r2
        have := line62
        exact ⟨n, rfl, by omega, by omega, k _ G1 H1 F1 r1 q1 s1 (yl_range (by omega))⟩
    · cases e2
  · cases e2
theorem mi_seq {l : Expr} {fa : Mo D} (h : MV X l fa) : MI X tg l (fun env => (fa env).bind fun x => (seqOf x.1).map fun z => (z, x.2)) := by
  obtain ⟨t, p, o⟩ := h.ex
  refine ⟨_, pi_or (pi_list (pe_hlen p)) (pi_tup (pe_hlen p)), fun c G H st env F R xs env' r q e k => ?_⟩
  obtain ⟨⟨d, e'⟩, e1, e2⟩ := Option.bind_eq_some_iff.mp e
  obtain ⟨z, e3, e4⟩ := Option.map_eq_some_iff.mp e2
  cases e4
  cases d <;> try (cases e3; done)
  · cases e3
    refine .inl (o c G H st env F _ _ _ r q e1 fun v G' H' F' r' q' s rv hz => ?_)
    cases rv with
    | lst h l => exact ⟨_, rfl, ⟨_, SqL.of (r'.sub _ _ h)⟩, k _ G' H' F' r' q' s (yl_list h l (hz.1 _ _ (r'.sub _ _ h)))⟩
  · cases e3
    refine .inr (o c G H st env F _ _ _ r q e1 fun v G' H' F' r' q' s rv hz => ?_)
    cases rv with
    | tup h l => exact ⟨_, rfl, ⟨_, SqT.of (r'.sub _ _ h)⟩, k _ G' H' F' r' q' s (yl_tup h l (hz.2 _ _ (r'.sub _ _ h)))⟩

/-! ### statements -/
@[simp] def sSetM (i : Nat) (fe : Mo D) : VL.Env → Option Out := fun env => (fe env).map fun x => .nx (x.2.set i (some (.fz x.1)))
theorem okSetM {K : PySem.W.Frag} {te : TE} {i : Nat} (o : ∀ (c : C0) (G H : Hp) (st : L2.St) (env : VL.Env) (F : Nat → List Addr) (Q : VK) (d : D) (env' : VL.Env), ER K G H st env F → CR c G H F → fe env = some (d, env') →
    (∀ v G' H' F', ER K G' H' st env' F' → CR c G' H' F' → Same G G' → Rp K G' v d → Q v H') → te st H Q) : OkT K (sSetM i fe) (tAsg te (gName i)) := fun c G H s env F E u r q e k => by
  obtain ⟨⟨d, e'⟩, e1, e2⟩ := Option.map_eq_some_iff.mp e
  subst e2
  exact o c G H s env F _ d e' r q e1 fun v G' H' F' r' q' s' rv => k G' H' _ _ (r'.setF i rv) (q'.sub fun j a m => putFp_sub m)
variable {e : Expr} {st : Stmt} {sts : List Stmt}
theorem s_setM (i : Nat) {x : Str} {pos' : Pos} (hN : X.N.Nodup) (he : MV X e fe) (hi : X.N[i]? = some x := by rfl) (hx : Loc X.env.scope x := by first | exact Or.inl rfl | exact Or.inr rfl) (hs : swapsWith e (some (.Name x pos')) pos.line X.env = pure false := by rfl)
    (hf : X.fn x = true ∨ X.env.scope.names.lookup x = some .local := by first | exact .inl rfl | exact .inr rfl) : SV X (.Assign [.Name x pos'] e pos) (sSetM i fe) := by
  obtain ⟨t, p, o⟩ := he.ex
  exact ⟨_, ps_set hN hi hx p hs hf, okSetM o⟩
theorem s_setCM (i : Nat) {y : Str} {py spos : Pos} (hc : X.calm = true) (hN : X.N.Nodup) (hi : MI X tg iter fi) (ok : BlkOk X.N X.env.scope scope own) (hts : ∀ i ∈ ts, i ∈ own.map (·.2))
    (hg : ∀ (s : Shared) (H : Hp) (C : Addr) (cl : List (Str × Addr)) (fp : List Addr), TG1 (X.blk s H scope (compEnvC scope cl C X.env) fp) tg ts ft)
    (ht : ∀ (s : Shared) (H : Hp) (C : Addr) (cl : List (Str × Addr)) (fp : List Addr), MTs (X.blk s H scope (compEnvC scope cl C X.env) fp) ifs fc)
    (he : ∀ (s : Shared) (H : Hp) (C : Addr) (cl : List (Str × Addr)) (fp : List Addr), MV (X.blk s H scope (compEnvC scope cl C X.env) fp) elt fe)
    (hsw : swapsWith (.ListComp elt [⟨tg, iter, ifs, 0⟩] scope pos) (some (.Name y py)) spos.line X.env = pure true) (hy : X.N[i]? = some y := by rfl) (hyl : X.env.scope.names.lookup y = some .local := by rfl)
    (hs : ∀ x, foldedSetIterable iter X.env x = pure x := by intro _; rfl) :
    SV X (.Assign [.Name y py] (.ListComp elt [⟨tg, iter, ifs, 0⟩] scope pos) spos) (sSetM i (mComp (own.map (·.2)) fi ft fc fe)) := by
  obtain ⟨wi, p, o⟩ := hi.ex
  exact ⟨_, ps_setLc hc hN hy hyl hsw p ok (fun s H C cl fp => (hg s H C cl fp).c) (fun s H C cl fp => (ht s H C cl fp).c) (fun s H C cl fp => (he s H C cl fp).c) hs, okSetM (okLM_v (lcm_ok o hts))⟩
@[simp] def sTgM (ft : D → VL.Env → Option VL.Env) (fe : Mo D) : VL.Env → Option Out := fun env => (fe env).bind fun d => (ft d.1 d.2).map .nx
theorem s_tgM (he : MV X e fe) (hg : TG1 X tg ts ft) (hs : swapsWithSole [tg] e pos.line X.env = pure false := by rfl) (hw : swappedStores [tg] e X.env = pure none := by rfl)
    (h1 : (assignEach [tg] X.env).map (·.2) = [assign tg X.env] := by rfl) : SV X (.Assign [tg] e pos) (sTgM ft fe) := by
  obtain ⟨t, p, o⟩ := he.ex
  obtain ⟨g, pg, og⟩ := hg.ex
  refine ⟨_, ps_asg p pg hs hw h1, fun c G H s env F E u r q e k => ?_⟩
  obtain ⟨⟨d, e'⟩, e1, e2⟩ := Option.bind_eq_some_iff.mp (show (fe env).bind _ = _ from e)
  obtain ⟨env', e3, e4⟩ := Option.map_eq_some_iff.mp e2
  subst e4
  exact o c G H s env F _ d e' r q e1 fun v G' H' F' r' q' s' rv => og G' H' s e' F' v d env' _ r' rv e3 fun st' F2 r2 sb _ => k G' H' st' F2 r2 (q'.sub sb)
@[simp] def sParM (i j : Nat) (fs : Mo (List D)) : VL.Env → Option Out := fun env => (fs env).bind fun ds => match ds.1 with
  | [d, e] => some (.nx ((ds.2.set i (some (.fz d))).set j (some (.fz e))))
  | _ => none
theorem s_parM {i j : Nat} {x y : Str} {a b : Expr} {fs : Mo (List D)} {px py pt : Pos} {kt k2 pt2} (hc : X.calm = true) (hN : X.N.Nodup) (ha : MA X [a, b] fs) (hij : i ≠ j) (hi : X.N[i]? = some x := by rfl) (hj : X.N[j]? = some y := by rfl)
    (hx : X.env.scope.names.lookup x = some .local := by rfl) (hy : X.env.scope.names.lookup y = some .local := by rfl)
    (hw : swappedStores [.Tuple [.Name x px, .Name y py] kt pt] (.Tuple [a, b] k2 pt2) X.env = pure (some [x, y]) := by rfl)
    (hs : swapsWithSole [.Tuple [.Name x px, .Name y py] kt pt] (.Tuple [a, b] k2 pt2) pos.line X.env = pure false := by rfl) :
    SV X (.Assign [.Tuple [.Name x px, .Name y py] kt pt] (.Tuple [a, b] k2 pt2) pos) (sParM i j fs) := by
  obtain ⟨t, p, o⟩ := ha.ex
  refine ⟨_, ps_par hc hN hi hj hij hx hy p hw hs, fun c G H s env F E u r q e k => ?_⟩
  obtain ⟨⟨ds, e'⟩, e1, e2⟩ := Option.bind_eq_some_iff.mp (show (fs env).bind _ = _ from e)
  dsimp only at e2
  split at e2
  · cases e2
    refine o c G H s env F _ _ _ r q e1 fun vs G' H' F' r' q' s' rv => ?_
    cases rv with
    | cons r1 r2 =>
      cases r2 with
      | cons r2 r3 =>
        cases r3
        exact ⟨_, _, rfl, k G' H' _ _ ((r'.setF i r1).setF j r2) (q'.sub fun j a m => putFp_sub (putFp_sub m))⟩
  · cases e2
@[simp] def sIfM (c : Mo Bool) (f g : VL.Env → Option Out) : VL.Env → Option Out := fun env => (c env).bind fun b => if b.1 then f b.2 else g b.2
theorem s_ifM {cnd : Expr} {a b : List Stmt} {f g : VL.Env → Option Out} (hc : MT X cnd fc) (ha : BV X a f) (hb : BV X b g) : SV X (.If cnd a b pos) (sIfM fc f g) := by
  obtain ⟨tc, pc, oc⟩ := hc.ex
  obtain ⟨t, p, o⟩ := ha.ex
  obtain ⟨t', p', o'⟩ := hb.ex
  refine ⟨_, ps_if pc p p', fun c G H s env F E u r q e k => ?_⟩
  obtain ⟨⟨x, e'⟩, e1, e2⟩ := Option.bind_eq_some_iff.mp (show (fc env).bind _ = _ from e)
  refine oc c G H s env F _ x e' r q e1 fun G' H' F' r' q' s' => ?_
  cases x with
  | true => exact iteT (o c G' H' s e' F' E u r' q' e2 k)
  | false => exact iteF (o' c G' H' s e' F' E u r' q' e2 k)
@[simp] def sRetM (fe : Mo D) : VL.Env → Option Out := fun env => (fe env).map fun d => .rt (.fz d.1) d.2
theorem s_retM (he : MV X e fe) : SV X (.Return (some e) pos) (sRetM fe) := by
  obtain ⟨t, p, o⟩ := he.ex
  refine ⟨_, ps_ret p, fun c G H s env F E u r q e k => ?_⟩
  obtain ⟨⟨d, e'⟩, e1, e2⟩ := Option.map_eq_some_iff.mp e
  subst e2
  exact o c G H s env F _ d e' r q e1 fun v G' H' F' r' q' s' rv => k v G' H' s F' [] r' q' (.fz rv) .nil (fun a m => by cases m) (fun i a m => by cases m)
@[simp] def sForM (fi : Mo (List D)) (ft : D → VL.Env → Option VL.Env) (fb : VL.Env → Option Out) : VL.Env → Option Out := fun env => (fi env).bind fun xs => forD ft fb xs.1 xs.2
theorem s_forM {body : List Stmt} {fb : VL.Env → Option Out} (hp : PassesOwn (model X.prog X.w) X.A X.env X.xe) (hc : X.calm = true) (hi : MI X tg iter fi) (hg : TG1 X tg ts ft) (hb : BV X body fb)
    (hs : ∀ x, foldedSetIterable iter X.env x = pure x := by intro _; rfl) : SV X (.For tg iter body [] pos) (sForM fi ft fb) := by
  obtain ⟨wi, pi, oi⟩ := hi.ex
  obtain ⟨g, pg, og⟩ := hg.ex
  obtain ⟨tb, pb, ob⟩ := hb.ex
  refine ⟨_, ps_for hp hc pi pg pb hs, fun c G H s env F E u r q e k => ?_⟩
  obtain ⟨⟨xs, env1⟩, e1, e2⟩ := Option.bind_eq_some_iff.mp (show (fi env).bind _ = _ from e)
  refine oi c G H s env F _ xs env1 r q e1 fun J G1 H1 F1 r1 q1 s1 y => ?_
  refine ⟨fun i m s' Hc => m = xs.length - i ∧ i ≤ xs.length ∧ ∃ Gc env' F' o, ER X.K Gc Hc s' env' F' ∧ CR c Gc Hc F' ∧ Same G1 Gc ∧ forD ft fb (xs.drop i) env' = some o ∧ Post X.K c E o,
    ⟨xs.length, rfl, Nat.zero_le _, G1, env1, F1, u, r1, q1, Same.refl _, e2, k⟩, ?_⟩
  rintro i m s' Hc ⟨em, hi', Gc, env', F', o, r', q', sg, ec, kc⟩
  by_cases hlt : i < xs.length
  · have ed : xs.drop i = xs[i] :: xs.drop (i + 1) := List.drop_eq_getElem_cons hlt
    rw [ed] at ec
    obtain ⟨ea, t1, ec⟩ := Option.bind_eq_some_iff.mp (show (ft xs[i] env').bind _ = some o from ec)
    obtain ⟨ob', t2, ec⟩ := Option.bind_eq_some_iff.mp ec
    obtain ⟨go, hy⟩ := y.step i Gc Hc sg (sg.trans r'.sub) r'.sub xs[i] (List.getElem?_eq_getElem hlt)
    refine .inr ⟨go, _, fun s2 H' h' => ⟨xs.length - (i + 1), by omega, rfl, hlt, h'⟩, fun v H3 hv => ?_⟩
    obtain ⟨G3, x3, rv⟩ := hy v H3 hv
    refine og G3 H3 s' env' F' v xs[i] ea _ (r'.ext x3) rv t1 fun st2 F2 r2 sb _ => ?_
    have q2 := (q'.ext x3).sub sb
    refine ob (VL.re G3 H3 F2) G3 H3 st2 ea F2 _ ob' r2 .re t2 ?_
    have nxt : ∀ e2', forD ft fb (xs.drop (i + 1)) e2' = some o → ∀ (G H : Hp) (st : L2.St) (F : Nat → List Addr), ER X.K G H st e2' F → CR (VL.re G3 H3 F2) G H F → i + 1 ≤ xs.length ∧ ∃ Gc env' F' o, ER X.K Gc H st env' F' ∧ CR c Gc H F' ∧ Same G1 Gc ∧ forD ft fb (xs.drop (i + 1)) env' = some o ∧ Post X.K c E o :=
      fun e2' ez G' H' st3 F3 r3 q3 => ⟨hlt, G', e2', F3, o, r3, q2.trans q3, (sg.trans x3.gg).trans q3.g0, ez, kc⟩
    cases ob' with
    | nx e2' => exact fun G' H' st3 F3 r3 q3 => (nxt e2' ec G' H' st3 F3 r3 q3).2
    | ct e2' => exact fun G' H' st3 F3 r3 q3 => (nxt e2' ec G' H' st3 F3 r3 q3).2
    | bk e2' =>
      cases ec
      exact fun G' H' st3 F3 r3 q3 => kc G' H' st3 F3 r3 (q2.trans q3)
    | rt z e2' =>
      cases ec
      exact Post.re (o := .rt z e2') q2 kc
  · have ei : i = xs.length := by omega
    refine .inl ⟨y.stop i Gc Hc sg (sg.trans r'.sub) r'.sub ei, ?_⟩
    rw [List.drop_eq_nil_of_le (by omega)] at ec
    cases ec
    exact kc Gc Hc s' F' r' q'
end
end VL

set_option Elab.async false
set_option linter.all false
set_option maxRecDepth 100000
/-! VL10: dicts, extend; defs that change their first argument; the law itself. -/
namespace VL
open PySem PySem.Spec PyProof.Rows L2

/-! ### dicts of the def's own, whose values are frozen -/
def frzK : List (D × S) → Option (List (D × D))
  | [] => some []
  | (k, .fz d) :: xs => (frzK xs).map ((k, d) :: ·)
  | _ => none
def fzK (kvs : List (D × D)) : List (D × S) := kvs.map fun p => (p.1, S.fz p.2)
@[simp] theorem frzK_map : ∀ kvs : List (D × D), frzK (fzK kvs) = some kvs
  | [] => rfl
  | (k, d) :: kvs => by
    show (frzK (fzK kvs)).map _ = _
    rw [frzK_map kvs]; rfl
theorem frzK_some : ∀ {xs : List (D × S)} {kvs : List (D × D)}, frzK xs = some kvs → xs = fzK kvs
  | [], _, h => by cases h; rfl
  | (k, .fz d) :: xs, _, h => by
    obtain ⟨ds, h1, h2⟩ := Option.map_eq_some_iff.mp (show (frzK xs).map _ = _ from h)
    subst h2
    rw [frzK_some h1]; rfl
  | (_, .ol _) :: _, _, h => by cases h
  | (_, .od _ _) :: _, _, h => by cases h
  | (_, .ot _) :: _, _, h => by cases h
  | (_, .ob _ _) :: _, _, h => by cases h
  | (_, .at _ _) :: _, _, h => by cases h
def odOf : S → Option (Bool × List (D × D))
  | .od t kvs => (frzK kvs).map fun x => (t, x)
  | _ => none
@[simp] theorem odOf_od (t : Bool) (kvs : List (D × D)) : odOf (.od t (fzK kvs)) = some (t, kvs) := by
  show (frzK (fzK kvs)).map _ = _
  rw [frzK_map]; rfl
theorem odOf_some {s : S} {t : Bool} {kvs : List (D × D)} (h : odOf s = some (t, kvs)) : s = .od t (fzK kvs) := by
  cases s <;> try (cases h; done)
  obtain ⟨x, h1, h2⟩ := Option.map_eq_some_iff.mp (show (frzK _).map _ = _ from h)
  cases h2
  rw [frzK_some h1]
section
variable {K : PySem.W.Frag} {G H : Hp}
theorem slRK_rp : ∀ {kvs : List (D × D)} {vs : List (Key × V)} {F : List Addr}, SlRK K G H vs (fzK kvs) F → RpK K G vs kvs ∧ F = []
  | [], _, _, h => by cases h; exact ⟨.nil, rfl⟩
  | (k, d) :: kvs, _, _, h => by
    cases h with
    | cons h1 h2 =>
      cases h1 with
      | fz r =>
        obtain ⟨a, b⟩ := slRK_rp h2
        exact ⟨.cons r a, by rw [b]; rfl⟩
theorem slRT_rp : ∀ {kvs : List (D × D)} {vs : List (List Key × V)} {F : List Addr}, SlRT K G H vs (fzK kvs) F → RpT K G vs kvs ∧ F = []
  | [], _, _, h => by cases h; exact ⟨.nil, rfl⟩
  | (k, d) :: kvs, _, _, h => by
    cases h with
    | cons h1 h2 =>
      cases h1 with
      | fz r =>
        obtain ⟨a, b⟩ := slRT_rp h2
        exact ⟨.cons r a, by rw [b]; rfl⟩
theorem slRK_of : ∀ {vs : List (Key × V)} {kvs : List (D × D)}, RpK K G vs kvs → SlRK K G H vs (fzK kvs) []
  | _, _, .nil => .nil
  | _, _, .cons h t => SlRK.cons (F := []) (.fz h) (slRK_of t)
theorem slRT_of : ∀ {vs : List (List Key × V)} {kvs : List (D × D)}, RpT K G vs kvs → SlRT K G H vs (fzK kvs) []
  | _, _, .nil => .nil
  | _, _, .cons h t => SlRT.cons (F := []) (.fz h) (slRT_of t)
def putKD (k : Key) (d : D) (kvs : List (D × D)) : List (D × D) :=
  if (kvs.any fun p => decide (keyD p.1 = some k)) = true then kvs.map fun p => if keyD p.1 = some k then (p.1, d) else p else kvs ++ [(kD k, d)]
def putTD (k : List Key) (d : D) (kvs : List (D × D)) : List (D × D) :=
  if (kvs.any fun p => decide (tkeyD p.1 = some k)) = true then kvs.map fun p => if tkeyD p.1 = some k then (p.1, d) else p else kvs ++ [(.tup (k.map kD), d)]
theorem RpK.length : ∀ {vs : List (Key × V)} {ds : List (D × D)}, RpK K G vs ds → vs.length = ds.length
  | _, _, .nil => rfl
  | _, _, .cons _ t => by rw [List.length_cons, List.length_cons, RpK.length t]
theorem RpT.length : ∀ {vs : List (List Key × V)} {ds : List (D × D)}, RpT K G vs ds → vs.length = ds.length
  | _, _, .nil => rfl
  | _, _, .cons _ t => by rw [List.length_cons, List.length_cons, RpT.length t]
theorem dec_key (a b : Key) : decide (a = b) = decide (keyD (kD a) = some b) := by
  rw [keyD_kD]
  by_cases c : a = b
  · subst c; simp
  · rw [decide_eq_false c, decide_eq_false fun z => c (Option.some.inj z)]
theorem dec_tkey (a b : List Key) : decide (a = b) = decide (tkeyD (.tup (a.map kD)) = some b) := by
  show _ = decide (keysD (a.map kD) = some b)
  rw [keysD_map]
  by_cases c : a = b
  · subst c; simp
  · rw [decide_eq_false c, decide_eq_false fun z => c (Option.some.inj z)]
theorem RpK.any (k : Key) : ∀ {vs : List (Key × V)} {ds : List (D × D)}, RpK K G vs ds → (vs.any fun p => decide (p.1 = k)) = ds.any fun p => decide (keyD p.1 = some k)
  | _, _, .nil => rfl
  | _, _, .cons _ t => by rw [List.any_cons, List.any_cons, RpK.any k t, dec_key]
theorem RpT.any (k : List Key) : ∀ {vs : List (List Key × V)} {ds : List (D × D)}, RpT K G vs ds → (vs.any fun p => decide (p.1 = k)) = ds.any fun p => decide (tkeyD p.1 = some k)
  | _, _, .nil => rfl
  | _, _, .cons _ t => by rw [List.any_cons, List.any_cons, RpT.any k t, dec_tkey]
theorem RpK.app : ∀ {vs ws : List (Key × V)} {ds es : List (D × D)}, RpK K G vs ds → RpK K G ws es → RpK K G (vs ++ ws) (ds ++ es)
  | _, _, _, _, .nil, h => h
  | _, _, _, _, .cons r t, h => .cons r (RpK.app t h)
theorem RpT.app : ∀ {vs ws : List (List Key × V)} {ds es : List (D × D)}, RpT K G vs ds → RpT K G ws es → RpT K G (vs ++ ws) (ds ++ es)
  | _, _, _, _, .nil, h => h
  | _, _, _, _, .cons r t, h => .cons r (RpT.app t h)
theorem RpK.setAll (k : Key) {v : V} {d : D} (r : Rp K G v d) : ∀ {vs : List (Key × V)} {ds : List (D × D)}, RpK K G vs ds →
    RpK K G (vs.map fun kv => if kv.1 = k then (kv.1, v) else kv) (ds.map fun p => if keyD p.1 = some k then (p.1, d) else p)
  | _, _, .nil => .nil
  | _, _, .cons (k := k') (v := v') (d := d') h t => by
    have ih := RpK.setAll k r t
    rw [List.map_cons, List.map_cons]
    show RpK K G ((if k' = k then (k', v) else (k', v')) :: _) ((if keyD (kD k') = some k then (kD k', d) else (kD k', d')) :: _)
    rw [keyD_kD]
    by_cases c : k' = k
    · rw [if_pos c, if_pos (by rw [c])]; exact .cons r ih
    · rw [if_neg c, if_neg fun z => c (Option.some.inj z)]; exact .cons h ih
theorem RpT.setAll (k : List Key) {v : V} {d : D} (r : Rp K G v d) : ∀ {vs : List (List Key × V)} {ds : List (D × D)}, RpT K G vs ds →
    RpT K G (vs.map fun kv => if kv.1 = k then (kv.1, v) else kv) (ds.map fun p => if tkeyD p.1 = some k then (p.1, d) else p)
  | _, _, .nil => .nil
  | _, _, .cons (k := k') (v := v') (d := d') h t => by
    have ih := RpT.setAll k r t
    rw [List.map_cons, List.map_cons]
    show RpT K G ((if k' = k then (k', v) else (k', v')) :: _) ((if keysD (k'.map kD) = some k then (.tup (k'.map kD), d) else (.tup (k'.map kD), d')) :: _)
    rw [keysD_map]
    by_cases c : k' = k
    · rw [if_pos c, if_pos (by rw [c])]; exact .cons r ih
    · rw [if_neg c, if_neg fun z => c (Option.some.inj z)]; exact .cons h ih
theorem RpK.put {k : Key} {v : V} {d : D} {vs : List (Key × V)} {ds : List (D × D)} (h : RpK K G vs ds) (r : Rp K G v d) : RpK K G (putK vs k v) (putKD k d ds) := by
  unfold putK putKD
  rw [h.any k]
  split
  · exact h.setAll k r
  · exact h.app (.cons r .nil)
theorem RpT.put {k : List Key} {v : V} {d : D} {vs : List (List Key × V)} {ds : List (D × D)} (h : RpT K G vs ds) (r : Rp K G v d) : RpT K G (putK vs k v) (putTD k d ds) := by
  unfold putK putTD
  rw [h.any k]
  split
  · exact h.setAll k r
  · exact h.app (.cons r .nil)
end
def dPut : Bool × List (D × D) → D → D → Option (List (D × D))
  | (false, kvs), k, d => if kvs.length < sizeLine then (keyD k).map fun k => putKD k d kvs else none
  | (true, kvs), k, d => if kvs.length < sizeLine then (tkeyD k).map fun k => putTD k d kvs else none
section
variable {X : Cx} {pos : Pos} {e : Expr} {fe fk : VL.Env → Option D}
/-- {} -/
theorem o_dnew (t : Bool) : PO X (.Dict [] [] pos) (fun _ => some (.od t [])) := by
  cases t with
  | false => exact ⟨_, pe_dnewK, fun G H st env F Q s r e k => by cases e; exact fun p np => k _ G _ [p] (Ex.own r.sub np) (.odK upd_same .nil) (by simp) fun a m => by cases List.mem_singleton.mp m; exact ⟨np, r.sub.free np⟩⟩
  | true => exact ⟨_, pe_dnewT, fun G H st env F Q s r e k => by cases e; exact fun p np => k _ G _ [p] (Ex.own r.sub np) (.odT upd_same .nil) (by simp) fun a m => by cases List.mem_singleton.mp m; exact ⟨np, r.sub.free np⟩⟩
/-- d[k] = e of an owned dict -/
@[simp] def sPutD (i : Nat) (fk fe : VL.Env → Option D) : VL.Env → Option Out := fun env => (fe env).bind fun d => (getS env i).bind fun z => (odOf z).bind fun o => (fk env).bind fun k => (dPut o k d).map fun kvs => .nx (env.set i (some (.od o.1 (fzK kvs))))
theorem s_putD (i : Nat) {k : Nat} {x : Str} {xpos tpos : Pos} {ke : Expr} (hr : Room k X.A) (he : PV X e fe) (hk : PV X ke fk) (hN : X.N[i]? = some x := by rfl) (hv : Vis X.env.scope x := by first | exact Or.inl rfl | exact Or.inr (Or.inl rfl) | exact Or.inr (Or.inr rfl))
    (hd : (x == ("__debug__" : Str)) = false := by decide) (hcd : (x == ("__classdict__" : Str)) = false := by decide)
    (hs : swapsWith e (some (.Subscript (.Name x xpos) ke tpos)) pos.line X.env = pure false := by rfl) :
    SV X (.Assign [.Subscript (.Name x xpos) ke tpos] e pos) (sPutD i fk fe) := by
  obtain ⟨t, p, o⟩ := he.ex
  obtain ⟨tk, pk, ok⟩ := hk.ex
  refine ⟨_, ps_dput (hu_of hr) (pe_var hN hv hd hcd) pk p hs, fun c G H s env F E u r q e k => ?_⟩
  obtain ⟨d, e1, e⟩ := Option.bind_eq_some_iff.mp e
  obtain ⟨z, e2, e⟩ := Option.bind_eq_some_iff.mp e
  obtain ⟨⟨tt, kvs⟩, e3, e⟩ := Option.bind_eq_some_iff.mp e
  obtain ⟨kd, e4, e⟩ := Option.bind_eq_some_iff.mp e
  obtain ⟨kvs', e6, e7⟩ := Option.map_eq_some_iff.mp e
  subst e7
  obtain rfl := odOf_some e3
  obtain ⟨v, g1, g2⟩ := r.slot i _ (getS_some e2)
  refine o G H s env F _ d r e1 fun w G1 H1 x1 rw' => ⟨v, g1, ok G1 H1 s env F _ _ (r.ext x1) e4 fun kv G2 H2 x2 rk => ?_⟩
  have x12 := x1.trans x2
  have r2 := r.ext x12
  obtain ⟨v', g1', g3⟩ := r2.slot i _ (getS_some e2)
  rw [g1] at g1'
  cases g1'
  have rw2 := rw'.up x2.gg
  generalize hFi : F i = Fi at g3
  cases g3 with
  | @odK pp vs _ Fx g4 g5 =>
    obtain ⟨l1, rfl⟩ := slRK_rp g5
    have hppF : pp ∈ F i := by rw [hFi]; exact List.mem_cons_self
    have e6' : (if kvs.length < sizeLine then (keyD kd).map fun k => putKD k d kvs else none) = some kvs' := e6
    split at e6'
    · rename_i hl
      obtain ⟨kk, e8, e9⟩ := Option.map_eq_some_iff.mp e6'
      subst e9
      obtain rfl := kD_of e8
      have ag : ∀ b, b ∉ F i → (L2.upd H2 pp (.dK (putK vs kk w))) b = H2 b ∨ H2 b = none := fun b hb => .inl (upd_ne fun z => hb (by rw [z]; exact hppF))
      refine ⟨pp, _, rfl, .inl ⟨vs, kk, g4, rk.key, by rw [l1.length]; exact hl, rfl⟩, k G2 _ s _ (r2.upd (l := [pp]) g1 ag (.odK upd_same (slRK_of (l1.put rw2))) (by simp) fun a m => ?_) (CR.upd (q.ext x12) ag fun a m => ?_)⟩
      · cases List.mem_singleton.mp m; exact .inl hppF
      · cases List.mem_singleton.mp m; exact .inl hppF
    · cases e6'
  | @odT pp vs _ Fx g4 g5 =>
    obtain ⟨l1, rfl⟩ := slRT_rp g5
    have hppF : pp ∈ F i := by rw [hFi]; exact List.mem_cons_self
    have e6' : (if kvs.length < sizeLine then (tkeyD kd).map fun k => putTD k d kvs else none) = some kvs' := e6
    split at e6'
    · rename_i hl
      obtain ⟨kk, e8, e9⟩ := Option.map_eq_some_iff.mp e6'
      subst e9
      cases rk with
      | tup k1 k2 =>
        obtain rfl := kDs_of (show keysD _ = some kk from e8)
        rw [k2.keys] at k1
        have ag : ∀ b, b ∉ F i → (L2.upd H2 pp (.dT (putK vs kk w))) b = H2 b ∨ H2 b = none := fun b hb => .inl (upd_ne fun z => hb (by rw [z]; exact hppF))
        refine ⟨pp, _, rfl, .inr ⟨vs, kk, _, g4, rfl, x12.gh _ _ k1, by rw [l1.length]; exact hl, rfl⟩, k G2 _ s _ (r2.upd (l := [pp]) g1 ag (.odT upd_same (slRT_of (l1.put rw2))) (by simp) fun a m => ?_) (CR.upd (q.ext x12) ag fun a m => ?_)⟩
        · cases List.mem_singleton.mp m; exact .inl hppF
        · cases List.mem_singleton.mp m; exact .inl hppF
      | _ => cases e8
    · cases e6'
/-- x.extend(e) at an owned list with frozen items -/
@[simp] def sExt (i : Nat) (fe : VL.Env → Option D) : VL.Env → Option Out := fun env => (getS env i).bind fun z => (olOf z).bind fun ds => (fe env).bind fun d => (lstOf d).bind fun es => if ds.length + es.length ≤ sizeLine then some (.nx (env.set i (some (.ol ((ds ++ es).map S.fz))))) else none
theorem s_ext (i : Nat) {x : Str} {xpos apos cpos : Pos} (he : PV X e fe) (hN : X.N[i]? = some x := by rfl) (hv : Vis X.env.scope x := by first | exact Or.inl rfl | exact Or.inr (Or.inl rfl) | exact Or.inr (Or.inr rfl))
    (hd : (x == ("__debug__" : Str)) = false := by decide) (hcd : (x == ("__classdict__" : Str)) = false := by decide)
    (hbase : attributeBase (.Name x xpos) "extend" X.env (eval (.Name x xpos) X.env) = eval (.Name x xpos) X.env := by rfl)
    (hfew : ((backTo cpos (starEach [e] X.env)).all (fun x => !x.1) && (backToKw cpos (keywordEach [] X.env)).all (fun x => x.1.isSome)
      && decide ([e].length + ([] : List Keyword).length + (if ([] : List Keyword).isEmpty then 0 else 1) < 30)) = true := by rfl)
    (hline : (apos.endLine == cpos.line) = true := by rfl) (hs : starEach [e] X.env = (false, eval e X.env) :: starEach [] X.env := by rfl)
    (hsw : swapsWith (.Call (.Attribute (.Name x xpos) "extend" apos) [e] [] cpos) none pos.line X.env = pure false := by rfl) :
    SV X (.Expr (.Call (.Attribute (.Name x xpos) "extend" apos) [e] [] cpos) pos) (sExt i fe) := by
  obtain ⟨t, p, o⟩ := he.ex
  refine ⟨_, ps_expr (pe_bm PySem.F.plainAttrs_list PySem.F.slot_list_extend PySem.F.type_list_extend mt_extend (pe_var hN hv hd hcd) (pa_cons p pa_nil hs) hbase hfew hline hs rfl) hsw, fun c G H s env F E u r q e k => ?_⟩
  obtain ⟨z, e1, e⟩ := Option.bind_eq_some_iff.mp e
  obtain ⟨ds, e2, e⟩ := Option.bind_eq_some_iff.mp e
  obtain ⟨d, e3, e⟩ := Option.bind_eq_some_iff.mp e
  obtain ⟨es, e4, e⟩ := Option.bind_eq_some_iff.mp e
  split at e
  · rename_i hl
    cases e
    obtain rfl := olOf_some e2
    obtain rfl := lstOf_some e4
    obtain ⟨v, h1, h2⟩ := r.slot i _ (getS_some e1)
    have ho := o G H s env F
    have dom := fun a => r.dom (i := i) (a := a)
    generalize hFi : F i = Fi at h2
    cases h2 with
    | @ol pp vs _ Fx g1 g2 =>
      obtain ⟨l1, rfl⟩ := slRs_rp g2
      refine ⟨.ref pp, h1, .inl ⟨rfl, _, SqL.of g1⟩, o G H s env F _ _ r e3 fun w G' H' x rw' => ?_⟩
      cases rw' with
      | @lst bb ws _ w1 w2 =>
        have hppF : pp ∈ F i := by rw [hFi]; exact List.mem_cons_self
        have ag : ∀ b, b ∉ F i → (L2.upd H' pp (.lst (vs ++ ws))) b = H' b ∨ H' b = none := fun b hb => .inl (upd_ne fun z => hb (by rw [z]; exact hppF))
        refine ⟨pp, bb, vs, ws, rfl, rfl, x.hh _ _ g1, x.gh _ _ w1, by rw [l1.length, w2.length]; exact hl, ?_⟩
        refine k G' _ s _ ((r.ext x).upd (l := [pp]) h1 ag (.ol upd_same (slRs_fz ((l1.up x.gg).append w2))) (by simp) fun a m => ?_) (CR.upd (q.ext x) ag fun a m => ?_)
        · cases List.mem_singleton.mp m; exact .inl hppF
        · cases List.mem_singleton.mp m; exact .inl hppF
  · cases e
end

/-! ### a def that changes what its first argument is -/
def slotAt (env : VL.Env) (p : Addr) : Option S := (getS env 0).bind fun z => (atOf z).bind fun s => if s.1 = p then some s.2 else none
theorem slotAt_some {env : VL.Env} {p : Addr} {s : S} (h : slotAt env p = some s) : env[0]? = some (some (.at p s)) := by
  obtain ⟨z, h1, h⟩ := Option.bind_eq_some_iff.mp (show (getS env 0).bind _ = _ from h)
  obtain ⟨⟨a, s'⟩, h2, h⟩ := Option.bind_eq_some_iff.mp h
  have h3 : (if a = p then some s' else none) = some s := h
  obtain rfl := atOf_some h2
  split at h3
  · rename_i c; cases h3; subst c; exact getS_some h1
  · cases h3
def retI (p : Addr) : Out → Option (D × S)
  | .rt (.fz d) env => (slotAt env p).map fun s => (d, s)
  | .nx env => (slotAt env p).map fun s => (.non, s)
  | _ => none
def fnI (np n : Nat) (fb : VL.Env → Option Out) (p : Addr) (s : S) (ds : List D) : Option (D × S) :=
  if ds.length + 1 = np ∧ np ≤ n then (fb (some (.at p s) :: (ds.map (fun d => some (S.fz d)) ++ List.replicate (n - np) none))).bind (retI p) else none
section
variable {P : Program} {w : World} {K : PySem.W.Frag} {mg : Str → Option Value} {base : Heap}
theorem fn_okI {x qual : Str} {st : Stmt} {f : Addr} {fd : FuncData} {N ps : List Str} {k : Nat} {fb : VL.Env → Option Out} (F : Fun K x qual st f fd) (Sc : FnScope N ps (defScope st))
    (hb : ∀ (cdv : Value) (A : Around) (outer : List PySem.Env) (s : Shared) (H : Hp) (E : XK), Room k (A.deeper (envOfC qual (defScope st) s.heap.objs.size f cdv)) →
      BV (cxOf CX0 P w K mg base N qual (defScope st) f cdv A outer s H E).nox (defBody st) fb) : FnOk P w K mg base CX0 (k + 1) f fd ps (spI K (fnI ps.length N.length fb)) := by
  refine F.ok Sc (fun vs H Q E ⟨G, p, ws, s0, l0, ds, d, s1, _, ev, _, _, _, l, e, _⟩ => ?_) (fun cdv A outer s H vs Q E hr ⟨G, p, ws, s0, l0, ds, d, s1, sub, ev, sl, nd, off, l, e, kk⟩ => ?_)
  · unfold fnI at e
    split at e
    · rename_i h; rw [ev, List.length_cons, l.length]; exact h.1
    · cases e
  · obtain ⟨t, pp, o⟩ := (hb cdv A outer s H E hr).ex
    unfold fnI at e
    split at e
    · rename_i hn
      obtain ⟨u, e1, e2⟩ := Option.bind_eq_some_iff.mp e
      subst ev
      have r0 : ER K G H (L2.start N (V.ref p :: ws)) (some (.at p s0) :: (ds.map (fun d => some (S.fz d)) ++ List.replicate (N.length - ps.length) none)) (fun i => if i = 0 then l0 else []) := by
        have es : L2.start N (V.ref p :: ws) = some (V.ref p) :: (ws.map some ++ List.replicate (N.length - ps.length) none) := by
          unfold L2.start
          rw [List.map_cons, List.cons_append, List.length_cons, l.length, hn.1]
        rw [es]
        refine ⟨sub, by simp [l.length], fun i z ez => ?_, fun i hi => ?_, fun i a m => ?_, fun i => ?_, fun i j a m m' => ?_⟩
        · cases i with
          | zero => cases ez; exact ⟨_, rfl, .at sl⟩
          | succ i =>
            rw [List.getElem?_cons_succ] at ez ⊢
            by_cases hi : i < ds.length
            · rw [List.getElem?_append_left (by rw [List.length_map]; exact hi), List.getElem?_map] at ez
              obtain ⟨d', z1, z2⟩ := Option.map_eq_some_iff.mp ez
              cases z2
              obtain ⟨v, h1, h2⟩ := l.get z1
              refine ⟨v, ?_, .fz h2⟩
              rw [List.getElem?_append_left (by rw [List.length_map, l.length]; exact hi), List.getElem?_map, h1]; rfl
            · rw [List.getElem?_append_right (by rw [List.length_map]; omega)] at ez
              have := List.mem_of_getElem? ez
              rw [List.mem_replicate] at this
              cases this.2
        · by_cases c : i = 0
          · subst c; exact absurd rfl (hi (.at p s0))
          · exact if_neg c
        · split at m
          · exact off a m
          · cases m
        · show (if i = 0 then l0 else []).Nodup
          split
          · exact nd
          · exact .nil
        · split at m <;> split at m'
          · rename_i c c'; rw [c, c']
          · cases m'
          · cases m
          · cases m
      have fin : ∀ (v : V) (env : VL.Env) (z : D) (s2 : S) (G' H' : Hp) (st' : L2.St) (F' : Nat → List Addr), slotAt env p = some s2 → (z, s2) = (d, s1) → ER K G' H' st' env F' → CR ⟨G, H, fun a => a ∈ l0⟩ G' H' F' → Rp K G' v z → Q v H' := fun v env z s2 G' H' st' F' h0 ez r q rv => by
        cases ez
        obtain ⟨v', h1, h2⟩ := r.slot 0 _ (slotAt_some h0)
        have nd1 := r.nd 0
        have of1 := r.off 0
        have ow := q.own 0
        generalize F' 0 = F0 at h2 nd1 of1 ow
        cases h2 with
        | «at» h2 => exact kk v G' H' F0 q.g0 r.sub (fun b o e n => q.keep b o e n) (fun b e => q.gnew b e) h2 nd1 (fun a m => ⟨of1 a m, (ow a m).symm⟩) rv
      refine ⟨t, pp, o ⟨G, H, fun a => a ∈ l0⟩ G H _ _ _ _ u r0 ⟨Same.refl _, fun b e => .inl e, fun b o e _ => e, fun i a m => ?_⟩ e1 ?_⟩
      · split at m
        · exact .inr m
        · cases m
      · cases u with
        | nx env =>
          obtain ⟨s2, h1, h2⟩ := Option.map_eq_some_iff.mp (show (slotAt env p).map _ = _ from e2)
          exact fun G' H' st' F' r q => fin .non env .non s2 G' H' st' F' h1 h2 r q .non
        | rt z env =>
          cases z with
          | fz z =>
            obtain ⟨s2, h1, h2⟩ := Option.map_eq_some_iff.mp (show (slotAt env p).map _ = _ from e2)
            exact fun v G' H' st' F' l' r q sl' _ _ _ => by
              cases sl' with
              | fz rv => exact fin v env z s2 G' H' st' F' h1 h2 r q rv
          | _ => cases e2
        | bk env => cases e2
        | ct env => cases e2
    · cases e
end

/-! ### the law's own state -/
def stS (n : Int) (cs : List Int) : S := .ol [.fz (.int n), .ol ((cs.map D.int).map S.fz)]
/-- a draw -/
def takeF (n : Int) (cs : List Int) (m : Int) : Int × Int × List Int :=
  let at_ := n % (cs.length : Int)
  let cell := cs.getD at_.toNat 0
  if 1000000000000000000 ≤ cell then (cell % m, n, cs.set at_.toNat (cell / m))
  else
    let m1 := (cell * 48271 + (n + 1) * 69621) % 2147483647
    let m2 := (m1 * 16807 + (n + 1) * 7919) % 1000000007
    (m2 / 7 % m, n + 1, cs)
theorem takeF_lt {n : Int} {cs : List Int} {m : Int} (h : 0 < m) : 0 ≤ (takeF n cs m).1 ∧ (takeF n cs m).1 < m := by
  unfold takeF
  dsimp only
  split
  · exact ⟨Int.emod_nonneg _ (by omega), Int.emod_lt_of_pos _ h⟩
  · exact ⟨Int.emod_nonneg _ (by omega), Int.emod_lt_of_pos _ h⟩
theorem takeF_ne {n : Int} {cs : List Int} {m : Int} (h : cs ≠ []) : (takeF n cs m).2.2 ≠ [] := by
  unfold takeF
  dsimp only
  split
  · intro e
    apply h
    have := congrArg List.length e
    rw [List.length_set] at this
    exact List.length_eq_zero_iff.mp this
  · exact h
def takeS (_ : Addr) : S → List D → Option (D × S)
  | .ol [.fz (.int n), .ol cs], [.int m] => (frzL cs).bind fun c1 => (intsOf c1).bind fun c2 => if 0 < m ∧ m.natAbs.log2 < 9000 ∧ c2 ≠ [] then some (.int (takeF n c2 m).1, stS (takeF n c2 m).2.1 (takeF n c2 m).2.2) else none
  | _, _ => none
theorem takeS_some {a : Addr} {s : S} {ds : List D} {z : D × S} (h : takeS a s ds = some z) : ∃ n cs m, s = stS n cs ∧ ds = [.int m] ∧ 0 < m ∧ m.natAbs.log2 < 9000 ∧ cs ≠ [] ∧ z = (.int (takeF n cs m).1, stS (takeF n cs m).2.1 (takeF n cs m).2.2) := by
  unfold takeS at h
  split at h
  · rename_i n cs m
    obtain ⟨c1, h1, h⟩ := Option.bind_eq_some_iff.mp h
    obtain ⟨c2, h2, h⟩ := Option.bind_eq_some_iff.mp h
    split at h
    · rename_i c
      cases h
      refine ⟨n, c2, m, ?_, rfl, c.1, c.2.1, c.2.2, rfl⟩
      rw [frzL_some h1, intsOf_some h2]; rfl
    · cases h
  · cases h
theorem takeS_eq {a : Addr} {n : Int} {cs : List Int} {m : Int} (h : 0 < m) (hm : m.natAbs < 2 ^ 64) (hc : cs ≠ []) : takeS a (stS n cs) [.int m] = some (.int (takeF n cs m).1, stS (takeF n cs m).2.1 (takeF n cs m).2.2) := by
  have h2 := log2_small hm (by decide)
  show (frzL _).bind _ = _
  rw [frzL_map]
  show (intsOf _).bind _ = _
  rw [intsOf_map]
  show (if _ then _ else _) = _
  rw [if_pos ⟨h, by omega, hc⟩]
end VL

set_option Elab.async false
set_option linter.all false
set_option maxRecDepth 100000
/-! VL11: short names for what the printed walks say; the law's own body. -/
namespace VL
open PySem PySem.Spec PyProof.Rows L2
@[simp] abbrev dN (i : Nat) : VL.Env → Option D := fun env => getF env i
@[simp] abbrev dW (i : Nat) : VL.Env → Option D := fun env => getW env i
@[simp] abbrev dK (d : D) : VL.Env → Option D := fun _ => some d
@[simp] abbrev a0 : VL.Env → Option (List D) := fun _ => some []
@[simp] abbrev dTup (fs : VL.Env → Option (List D)) : VL.Env → Option D := fun env => (fs env).bind fun ds => if ds.length < 1000 then some (.tup ds) else none
@[simp] abbrev dLst (fs : VL.Env → Option (List D)) : VL.Env → Option (List D) := fun env => (fs env).bind fun ds => if ds.length < 1000 then some ds else none
@[simp] abbrev fL (f : VL.Env → Option (List D)) : VL.Env → Option D := fun env => (f env).map D.lst
@[simp] abbrev oL (f : VL.Env → Option (List D)) : VL.Env → Option S := fun env => (f env).map fun ds => S.ol (ds.map S.fz)
@[simp] abbrev dSc (f : VL.Env → Option D) : VL.Env → Option D := fun env => (f env).bind scal
@[simp] abbrev dTr (f : VL.Env → Option D) : VL.Env → Option Bool := fun env => (f env).bind truE
@[simp] abbrev dNeg1 (f : VL.Env → Option D) : VL.Env → Option D := fun env => (f env).bind dNeg
@[simp] abbrev iSq (f : VL.Env → Option D) : VL.Env → Option (List D) := fun env => (f env).bind seqOf
@[simp] abbrev iOw (i : Nat) : VL.Env → Option (List D) := fun env => (getS env i).bind olOf
@[simp] abbrev iR1 (f : VL.Env → Option (List D)) : VL.Env → Option (List D) := fun env => (f env).bind rng1
@[simp] abbrev iR2 (f : VL.Env → Option (List D)) : VL.Env → Option (List D) := fun env => (f env).bind rng2
@[simp] abbrev iEn (f : VL.Env → Option D) : VL.Env → Option (List D) := fun env => (f env).bind fun d => (lstOf d).map enumD
@[simp] abbrev dComp (vs : List Nat) (fi : VL.Env → Option (List D)) (ft : D → VL.Env → Option VL.Env) (fc : VL.Env → Option Bool) (fe : VL.Env → Option D) : VL.Env → Option (List D) := fun env => (fi env).bind (compD ft fc fe (wipeE env vs))
@[simp] abbrev cY : VL.Env → Option Bool := fun _ => some true
@[simp] abbrev mY : Mo Bool := pur fun _ => some true
@[simp] abbrev mA0 : Mo (List D) := pur fun _ => some []
@[simp] abbrev dFz (i : Nat) (f : VL.Env → Option Out) : VL.Env → Option Out := fun env => (frzE i env).bind f
@[simp] abbrev sl0 : VL.Env → Option (Option Int) := fun _ => some none
@[simp] abbrev sl1 (f : VL.Env → Option D) : VL.Env → Option (Option Int) := fun env => ((f env).bind intOf).map some
@[simp] abbrev dCut (f : VL.Env → Option D) (l h : VL.Env → Option (Option Int)) : VL.Env → Option (List D) := fun env => (f env).bind fun d => (lstOf d).bind fun xs => (l env).bind fun l => (h env).bind fun h => some (cutD xs l h)
@[simp] abbrev oCall (fs : VL.Env → Option (List D)) (Fn : List D → Option S) : VL.Env → Option S := fun env => (fs env).bind Fn
@[simp] abbrev oFz (f : VL.Env → Option D) : VL.Env → Option S := fun env => (f env).map S.fz
@[simp] abbrev mSq (f : Mo D) : Mo (List D) := fun env => (f env).bind fun x => (seqOf x.1).map fun z => (z, x.2)
@[simp] abbrev mCall (fs : Mo (List D)) (Fn : List D → Option S) : Mo D := mB fs fun ds => (Fn ds).bind frS
@[simp] abbrev sBk : VL.Env → Option Out := fun env => some (.bk env)
@[simp] abbrev sCt : VL.Env → Option Out := fun env => some (.ct env)
@[simp] abbrev sRet0 : VL.Env → Option Out := fun env => some (.rt (.fz .non) env)

/-! ### tuple(x) -/
def CallF (X : Cx) (f : Value) (g : List D → Option D) : Prop :=
  ∃ r : List V → Hp → VK → Prop, CallR X f r ∧ ∀ (G H : Hp) (vs : List V) (ds : List D) (z : D) (Q : VK), Same G H → RpL X.K G vs ds → g ds = some z → (∀ v G' H', Ex G H G' H' → Rp X.K G' v z → Q v H') → r vs H Q
section
variable {X : Cx} {x : Str} {p pos : Pos} {id : String} {e : Expr} {es : List Expr} {fs : VL.Env → Option (List D)}
theorem v_callTF {g : List D → Option D} (hc : CallF X (.type id) g) (hg : Gl X x) (hm : X.mg x = none) (hv : bootBuiltins x = some (.type id)) (ha : AV X (e :: es) fs) (hn : x ≠ "__name__" := by decide) (hdb : (x == ("__debug__" : Str)) = false := by decide)
    (he : starEach (e :: es) X.env = (false, eval e X.env) :: starEach es X.env := by rfl) (hpl : (backTo pos (starEach es X.env)).any (·.1) = false := by rfl) : PV X (.Call (.Name x p) (e :: es) [] pos) (cB fs g) := by
  obtain ⟨r, hr, o⟩ := hc
  obtain ⟨t, pa, oa⟩ := ha.ex
  refine ⟨_, pe_callTy hr hg hm hv pa hn hdb he hpl, fun G H st env F Q d re e k => ?_⟩
  obtain ⟨ds, e1, e2⟩ := Option.bind_eq_some_iff.mp e
  exact oa G H st env F _ _ re e1 fun vs G1 H1 x1 r1 => o G1 H1 vs ds d Q x1.gh r1 e2 fun v G' H' x2 r2 => k v G' H' (x1.trans x2) r2
def dTuple : List D → Option D
  | [.lst xs] => some (.tup xs)
  | [.tup xs] => some (.tup xs)
  | _ => none
theorem c_tuple : CallF X (.type "tuple") dTuple := by
  refine ⟨_, call_tuple_of, fun G H vs ds z Q s r q k => ?_⟩
  unfold dTuple at q
  split at q
  · cases q
    cases r with
    | cons r1 r2 =>
      cases r2
      cases r1 with
      | lst h l => exact ⟨_, _, rfl, .inl ⟨SqL.of (s _ _ h), fun p np => k _ _ _ (Ex.frz s np) (.tup upd_same (l.up (same_upd (s.free np))))⟩⟩
  · cases q
    cases r with
    | cons r1 r2 =>
      cases r2
      cases r1 with
      | tup h l => exact ⟨_, _, rfl, .inr ⟨SqT.of (s _ _ h), k _ _ _ (Ex.refl s) (.tup h l)⟩⟩
  · cases q
theorem m_callTF {g : List D → Option D} {fs : Mo (List D)} (hc : CallF X (.type id) g) (hg : Gl X x) (hm : X.mg x = none) (hv : bootBuiltins x = some (.type id)) (ha : MA X (e :: es) fs) (hn : x ≠ "__name__" := by decide) (hdb : (x == ("__debug__" : Str)) = false := by decide)
    (he : starEach (e :: es) X.env = (false, eval e X.env) :: starEach es X.env := by rfl) (hpl : (backTo pos (starEach es X.env)).any (·.1) = false := by rfl) : MV X (.Call (.Name x p) (e :: es) [] pos) (mB fs g) := by
  obtain ⟨r, hr, o⟩ := hc
  obtain ⟨t, pa, oa⟩ := ha.ex
  refine ⟨_, pe_callTy hr hg hm hv pa hn hdb he hpl, fun c G H st env F Q d env' r q e k => ?_⟩
  obtain ⟨ds, e1, e2⟩ := mB_some e
  exact oa c G H st env F _ _ env' r q e1 fun vs G1 H1 F1 r1 q1 s1 rv => o G1 H1 vs ds d Q r1.sub rv e2 fun v G' H' x2 r2 => k v G' H' F1 (r1.ext x2) (q1.ext x2) (s1.trans x2.gg) r2
/-! ### isinstance(x, tuple), of what is frozen -/
def tyD : D → Option String
  | .non => some "NoneType"
  | .bl _ => some "bool"
  | .int _ => some "int"
  | .str _ => some "str"
  | .lst _ => some "list"
  | .tup _ => some "tuple"
  | .dic _ _ => some "dict"
theorem tyOf_rp {K : PySem.W.Frag} {H : Hp} {v : V} {d : D} (r : Rp K H v d) (n : ∀ t kvs, d ≠ .dic t kvs) : ∃ T, tyD d = some T ∧ TyOf K H v (.type T) := by
  cases r with
  | non => exact ⟨_, rfl, .non⟩
  | bl b => exact ⟨_, rfl, .bl b⟩
  | int i => exact ⟨_, rfl, .int i⟩
  | str x => exact ⟨_, rfl, .str x⟩
  | lst h l => exact ⟨_, rfl, .lst h⟩
  | tup h l => exact ⟨_, rfl, .tup h⟩
  | dK h l => exact absurd rfl (n _ _)
  | dT h l => exact absurd rfl (n _ _)
end
/-! ### the law -/
structure Df (K : PySem.W.Frag) (mg : Str → Option Value) (x : Str) (st : Stmt) (ps : List Str) (f : Addr) (fd : FuncData) : Prop where
  F : Fun K x x st f fd
  g : mg x = some (.ref f)
  b : Binds K fd ps []
def spState (K : PySem.W.Frag) : Sp := fun vs H Q _ => ∃ (a : Addr) (ns : List Int), vs = [.ref a] ∧ SqL K H a (ns.map V.int) ∧ ns.length ≤ 63 ∧
  ∀ (p q : Addr) (cs : List Int) (H' : Hp), Same H H' → H p = none → H q = none → p ≠ q → H' p = some (.lst [.int 0, .ref q]) → H' q = some (.lst (cs.map V.int)) → cs ≠ [] → Q (.ref p) H'
def spLaw (K : PySem.W.Frag) : Sp := fun vs H Q _ => ∃ (a : Addr) (ns : List Int), vs = [.ref a] ∧ SqL K H a (ns.map V.int) ∧ ns.length ≤ 63 ∧ ∀ H', Q (.bl true) H'
/-- the slots behind the law's first statement -/
def lawE (n : Nat) (p : Addr) (cs : List Int) : VL.Env := none :: some (.at p (stS 0 cs)) :: List.replicate (n - 2) none
def LawTrue (n : Nat) (fb : VL.Env → Option Out) : Prop := ∀ (p : Addr) (cs : List Int), cs ≠ [] → ∃ env', fb (lawE n p cs) = some (.rt (.fz (.bl true)) env')
section
variable {P : Program} {w : World} {K : PySem.W.Frag} {mg : Str → Option Value} {base : Heap}
theorem law_ok {st st0 : Stmt} {f : Addr} {fd : FuncData} {N : List Str} {k : Nat} {rest : List Stmt} {fb : VL.Env → Option Out} (F : Fun K "law" "law" st f fd) (Sc : FnScope N ["script"] (defScope st)) (hn : N.length = N.length - 2 + 2) (e0 : defBody st = st0 :: rest)
    (hb : ∀ (cdv : Value) (A : Around) (outer : List PySem.Env) (s : Shared) (H : Hp) (E : XK), Room (k + 1) (A.deeper (envOfC "law" (defScope st) s.heap.objs.size f cdv)) →
      BV (cxOf CX0 P w K mg base N "law" (defScope st) f cdv A outer s H E).nox rest fb)
    (hs : ∀ (cdv : Value) (A : Around) (outer : List PySem.Env) (s : Shared) (H : Hp) (E : XK), Room (k + 1) (A.deeper (envOfC "law" (defScope st) s.heap.objs.size f cdv)) →
      PS (cxOf CX0 P w K mg base N "law" (defScope st) f cdv A outer s H E).nox st0 (tAsg (tCall (spState K) [] E0 (tCons (tVar 0) tNil)) (gName 1)))
    (ht : LawTrue N.length fb) : FnOk P w K mg base CX0 (k + 2) f fd ["script"] (spLaw K) := by
  refine F.ok Sc (fun vs H Q E ⟨a, ns, ev, _⟩ => by rw [ev]; rfl) (fun cdv A outer s H vs Q E hr ⟨a, ns, ev, hS, hl, kk⟩ => ?_)
  subst ev
  obtain ⟨t, p, o⟩ := (hb cdv A outer s H E hr).ex
  have ps0 := hs cdv A outer s H E hr
  rw [e0]
  have es : L2.start N [V.ref a] = some (V.ref a) :: List.replicate (N.length - 1) none := rfl
  refine ⟨_, pss_cons ps0 p, ⟨_, by rw [es]; rfl, a, ns, rfl, hS, hl, fun pp qq cs H1 sm np nq npq hp hq hc => ?_⟩⟩
  obtain ⟨env', he⟩ := ht pp cs hc
  have en : N.length - 1 = (N.length - 2) + 1 := by omega
  have e1 : (L2.start N [V.ref a]).set 1 (some (V.ref pp)) = some (V.ref a) :: some (V.ref pp) :: List.replicate (N.length - 2) none := by
    rw [es, en, List.replicate_succ]; rfl
  show t _ ((L2.start N [V.ref a]).set 1 (some (V.ref pp))) H1
  rw [e1]
  have ndpq : [pp, qq].Nodup := by simp [npq]
  refine o ⟨fun _ => none, H1, fun a => a = pp ∨ a = qq⟩ (fun _ => none) H1 _ (lawE N.length pp cs) (fun i => if i = 1 then [pp, qq] else []) _ _ ⟨fun b o e => (by cases e), ?_, fun i z ez => ?_, fun i hi => ?_, fun i a m => rfl, fun i => ?_, fun i j a m m' => ?_⟩ ⟨fun b o e => (by cases e), fun b e => absurd rfl e, fun b o e _ => e, fun i a m => ?_⟩ he ?_
  · unfold lawE; simp
  · unfold lawE at ez
    match i, ez with
    | 1, ez =>
      cases ez
      refine ⟨_, rfl, .at ?_⟩
      exact SlR.ol (F := [qq]) hp (SlRs.cons (F := []) (F' := [qq]) (.fz (.int _)) (SlRs.cons (F := [qq]) (F' := []) (SlR.ol (F := []) hq (slRs_fz (RpL.of_ints _))) .nil))
    | i + 2, ez =>
      have := List.mem_of_getElem? (show (List.replicate (N.length - 2) (none : Option S))[i]? = some (some z) from ez)
      rw [List.mem_replicate] at this
      cases this.2
  · by_cases c : i = 1
    · subst c; exact absurd rfl (hi _)
    · exact if_neg c
  · show (if i = 1 then [pp, qq] else []).Nodup
    split
    · exact ndpq
    · exact .nil
  · split at m <;> split at m'
    · rename_i c c'; rw [c, c']
    · cases m'
    · cases m
    · cases m
  · split at m
    · exact .inr (by simpa using m)
    · cases m
  · exact fun v G' H' st' F' l r q sl _ _ _ => by
      cases sl with
      | fz rv => cases rv; exact kk H'
end
end VL

set_option Elab.async false
set_option linter.all false
set_option maxRecDepth 100000
/-! VL12: isinstance(x, tuple); stores with draws. -/
namespace VL
open PySem PySem.Spec PyProof.Rows L2
def isTup : D → Option D
  | .tup _ => some (.bl true)
  | .lst _ => some (.bl false)
  | .int _ => some (.bl false)
  | .str _ => some (.bl false)
  | .non => some (.bl false)
  | _ => none
@[simp] abbrev dIsi (_ : String) (f : VL.Env → Option D) : VL.Env → Option D := fun env => (f env).bind isTup
section
variable {X : Cx} {x : Str} {p p2 pos : Pos} {e : Expr} {es : List Expr} {fe : VL.Env → Option D}
theorem v_isi (hg : Gl X "isinstance") (hm : X.mg "isinstance" = none) (hg2 : Gl X "tuple") (hm2 : X.mg "tuple" = none) (he : PW X e fe)
    (hst : starEach (e :: [.Name "tuple" p2]) X.env = (false, eval e X.env) :: starEach [.Name "tuple" p2] X.env := by rfl) (hst2 : starEach [Expr.Name "tuple" p2] X.env = (false, eval (.Name "tuple" p2) X.env) :: starEach [] X.env := by rfl)
    (hpl : (backTo pos (starEach [Expr.Name "tuple" p2] X.env)).any (·.1) = false := by rfl) : PV X (.Call (.Name "isinstance" p) [e, .Name "tuple" p2] [] pos) (dIsi "tuple" fe) := by
  obtain ⟨t, pe, o⟩ := he.ex
  refine ⟨_, pe_callB call_isi hg hm (by decide +kernel) (pa_cons pe (pa_cons (pe_bltn (v := .ty "tuple") hg2 hm2 (by decide +kernel) rfl) pa_nil hst2) hst) (by decide) (by decide) hst hpl, fun G H st env F Q d r e k => ?_⟩
  obtain ⟨z, e1, e2⟩ := Option.bind_eq_some_iff.mp e
  refine o G H st env F _ _ r e1 fun v G' H' x1 rv => ?_
  cases z with
  | tup xs =>
    cases e2
    cases rv with
    | tup h l => exact ⟨_, _, _, _, true, rfl, .ty "tuple", .base (.tup h), kit_ty (by decide +kernel), k _ G' H' x1 (.bl _)⟩
  | lst xs =>
    cases e2
    cases rv with
    | lst h l => exact ⟨_, _, _, _, false, rfl, .ty "tuple", .base (.lst h), kit_ty (by decide +kernel), k _ G' H' x1 (.bl _)⟩
  | int i =>
    cases e2
    cases rv
    exact ⟨_, _, _, _, false, rfl, .ty "tuple", .base (.int _), kit_ty (by decide +kernel), k _ G' H' x1 (.bl _)⟩
  | str i =>
    cases e2
    cases rv
    exact ⟨_, _, _, _, false, rfl, .ty "tuple", .base (.str _), kit_ty (by decide +kernel), k _ G' H' x1 (.bl _)⟩
  | non =>
    cases e2
    cases rv
    exact ⟨_, _, _, _, false, rfl, .ty "tuple", .base .non, kit_ty (by decide +kernel), k _ G' H' x1 (.bl _)⟩
  | bl b => cases e2
  | dic b c => cases e2

/-! x.append(e), e with draws -/
@[simp] def sAppM (i : Nat) (fe : Mo D) : VL.Env → Option Out := fun env => (getS env i).bind fun z0 => (olOf z0).bind fun _ => (fe env).bind fun x => (getS x.2 i).bind fun z => (olOf z).bind fun ds => if ds.length < sizeLine then some (.nx (x.2.set i (some (.ol ((ds ++ [x.1]).map S.fz))))) else none
variable {fm : Mo D}
theorem s_appM (i : Nat) {xpos apos cpos : Pos} (he : MV X e fm) (hN : X.N[i]? = some x := by rfl) (hv : Vis X.env.scope x := by first | exact Or.inl rfl | exact Or.inr (Or.inl rfl) | exact Or.inr (Or.inr rfl))
    (hd : (x == ("__debug__" : Str)) = false := by decide) (hcd : (x == ("__classdict__" : Str)) = false := by decide)
    (hbase : attributeBase (.Name x xpos) "append" X.env (eval (.Name x xpos) X.env) = eval (.Name x xpos) X.env := by rfl)
    (hfew : ((backTo cpos (starEach [e] X.env)).all (fun x => !x.1) && (backToKw cpos (keywordEach [] X.env)).all (fun x => x.1.isSome)
      && decide ([e].length + ([] : List Keyword).length + (if ([] : List Keyword).isEmpty then 0 else 1) < 30)) = true := by rfl)
    (hline : (apos.endLine == cpos.line) = true := by rfl) (hs : starEach [e] X.env = (false, eval e X.env) :: starEach [] X.env := by rfl)
    (hsw : swapsWith (.Call (.Attribute (.Name x xpos) "append" apos) [e] [] cpos) none pos.line X.env = pure false := by rfl) :
    SV X (.Expr (.Call (.Attribute (.Name x xpos) "append" apos) [e] [] cpos) pos) (sAppM i fm) := by
  obtain ⟨t, p, o⟩ := he.ex
  refine ⟨_, ps_expr (pe_bm PySem.F.plainAttrs_list PySem.F.slot_list_append PySem.F.type_list_append mt_append (pe_var hN hv hd hcd) (pa_cons p pa_nil hs) hbase hfew hline hs rfl) hsw, fun c G H s env F E u r q e k => ?_⟩
  obtain ⟨z0, e0, e⟩ := Option.bind_eq_some_iff.mp (show (getS env i).bind _ = _ from e)
  obtain ⟨ds0, e00, e⟩ := Option.bind_eq_some_iff.mp e
  obtain ⟨⟨d, env'⟩, e1, e⟩ := Option.bind_eq_some_iff.mp e
  obtain ⟨z, e2, e⟩ := Option.bind_eq_some_iff.mp e
  obtain ⟨ds, e3, e⟩ := Option.bind_eq_some_iff.mp e
  split at e
  · rename_i hl
    cases e
    obtain rfl := olOf_some e3
    obtain rfl := olOf_some e00
    obtain ⟨v, h1, h0⟩ := r.slot i _ (getS_some e0)
    generalize F i = F0 at h0
    cases h0 with
    | @ol pp vs0 _ Fx0 g0 _ =>
      refine ⟨_, h1, .inl ⟨rfl, _, SqL.of g0⟩, o c G H s env F _ d env' r q e1 fun w G' H' F' r' q' s' rw' => ?_⟩
      obtain ⟨v', h2, h3⟩ := r'.slot i _ (getS_some e2)
      rw [h1] at h2
      cases h2
      generalize hFi : F' i = Fi at h3
      cases h3 with
      | @ol p2 vs _ Fx g1 g2 =>
        obtain ⟨l1, rfl⟩ := slRs_rp g2
        have hppF : pp ∈ F' i := by rw [hFi]; exact List.mem_cons_self
        have ag : ∀ b, b ∉ F' i → (L2.upd H' pp (.lst (vs ++ [w]))) b = H' b ∨ H' b = none := fun b hb => .inl (upd_ne fun z => hb (by rw [z]; exact hppF))
        refine ⟨pp, vs, w, rfl, rfl, g1, by rw [l1.length]; exact hl, ?_⟩
        refine k G' _ s _ (r'.upd (l := [pp]) h1 ag (.ol upd_same (slRs_fz (l1.append (.cons rw' .nil)))) (by simp) fun a m => ?_) (CR.upd q' ag fun a m => ?_)
        · cases List.mem_singleton.mp m; exact .inl hppF
        · cases List.mem_singleton.mp m; exact .inl hppF
  · cases e
/-! x[k] = e, e with draws -/
@[simp] def sPutLM (i : Nat) (fk : VL.Env → Option D) (fe : Mo D) : VL.Env → Option Out := fun env => (fe env).bind fun d => (getS d.2 i).bind fun z => (olOf z).bind fun ds => (fk d.2).bind fun kd => (intOf kd).bind fun n => (ixN ds.length n).map fun j => .nx (d.2.set i (some (.ol ((ds.set j d.1).map S.fz))))
variable {fk : VL.Env → Option D}
theorem s_putLM (i : Nat) {xpos tpos : Pos} {ke : Expr} (he : MV X e fm) (hk : PW X ke fk) (hN : X.N[i]? = some x := by rfl) (hv : Vis X.env.scope x := by first | exact Or.inl rfl | exact Or.inr (Or.inl rfl) | exact Or.inr (Or.inr rfl))
    (hd : (x == ("__debug__" : Str)) = false := by decide) (hcd : (x == ("__classdict__" : Str)) = false := by decide)
    (ha : ∀ v, assign (.Subscript (.Name x xpos) ke tpos) X.env v = (do
      let ov ← holding [v] (eval (.Name x xpos) X.env)
      let iv ← holding [v, ov] (eval ke X.env)
      standAt tpos
      holding [v, ov, iv] (setItem ov iv v)
      release [v, ov, iv] []) := by intro _; rfl)
    (hs : swapsWithSole [.Subscript (.Name x xpos) ke tpos] e pos.line X.env = pure false := by rfl) (hw : swappedStores [.Subscript (.Name x xpos) ke tpos] e X.env = pure none := by rfl)
    (h1 : (assignEach [.Subscript (.Name x xpos) ke tpos] X.env).map (·.2) = [assign (.Subscript (.Name x xpos) ke tpos) X.env] := by rfl) :
    SV X (.Assign [.Subscript (.Name x xpos) ke tpos] e pos) (sPutLM i fk fm) := by
  obtain ⟨t, p, o⟩ := he.ex
  obtain ⟨tk, pk, ok⟩ := hk.ex
  refine ⟨_, ps_asg p (pg_sub (pe_var hN hv hd hcd) pk set_list ha) hs hw h1, fun c G H s env F E u r q e k => ?_⟩
  obtain ⟨⟨d, env'⟩, e1, e⟩ := Option.bind_eq_some_iff.mp (show (fm env).bind _ = _ from e)
  obtain ⟨z, e2, e⟩ := Option.bind_eq_some_iff.mp e
  obtain ⟨ds, e3, e⟩ := Option.bind_eq_some_iff.mp e
  obtain ⟨kd, e4, e⟩ := Option.bind_eq_some_iff.mp e
  obtain ⟨n, e5, e⟩ := Option.bind_eq_some_iff.mp e
  obtain ⟨j, e6, e7⟩ := Option.map_eq_some_iff.mp e
  subst e7
  obtain rfl := olOf_some e3
  obtain rfl := intOf_some e5
  refine o c G H s env F _ d env' r q e1 fun w G1 H1 F1 r1 q1 s1 rw' => ?_
  obtain ⟨v, g1, g2⟩ := r1.slot i _ (getS_some e2)
  refine ⟨v, g1, ok G1 H1 s env' F1 _ _ r1 e4 fun kv G2 H2 x2 rk => ?_⟩
  cases rk
  have r2 := r1.ext x2
  obtain ⟨v', g1', g3⟩ := r2.slot i _ (getS_some e2)
  rw [g1] at g1'
  cases g1'
  generalize hFi : F1 i = Fi at g3
  cases g3 with
  | @ol pp vs _ Fx g4 g5 =>
    obtain ⟨l1, rfl⟩ := slRs_rp g5
    have hppF : pp ∈ F1 i := by rw [hFi]; exact List.mem_cons_self
    have ag : ∀ b, b ∉ F1 i → (L2.upd H2 pp (.lst (vs.set j w))) b = H2 b ∨ H2 b = none := fun b hb => .inl (upd_ne fun z => hb (by rw [z]; exact hppF))
    refine ⟨pp, vs, n, j, rfl, rfl, g4, by rw [l1.length]; exact e6, k G2 _ s _ (r2.upd (l := [pp]) g1 ag (.ol upd_same (slRs_fz (rpl_set j l1 (rw'.up x2.gg)))) (by simp) fun a m => ?_) (CR.upd (q1.ext x2) ag fun a m => ?_)⟩
    · cases List.mem_singleton.mp m; exact .inl hppF
    · cases List.mem_singleton.mp m; exact .inl hppF
end
@[simp] abbrev sWh (n : VL.Env → Nat) (fc : VL.Env → Option Bool) (fb : VL.Env → Option Out) : VL.Env → Option Out := fun env => whD fc fb (n env) env
end VL

set_option Elab.async false
set_option linter.all false
set_option maxRecDepth 100000
/-! VL13: the comprehensions' rules with their own slots told. -/
namespace VL
open PySem PySem.Spec PyProof.Rows L2
section
variable {X : Cx} {pos : Pos} {elt tg iter : Expr} {ifs : List Expr} {scope : Scope} {ts : List Nat} {ft : D → VL.Env → Option VL.Env}
theorem xl_comp {fi : VL.Env → Option (List D)} {fc : VL.Env → Option Bool} {fe : VL.Env → Option D} (own : List (Str × Nat)) (vs : List Nat) (hvs : own.map (·.2) = vs) (hc : X.calm = true) (hN : X.N.Nodup) (hi : IC X tg iter fi) (ok : BlkOk X.N X.env.scope scope own)
    (hg : ∀ (s : Shared) (H : Hp) (C : Addr) (cl : List (Str × Addr)) (fp : List Addr), TG1 (X.blk s H scope (compEnvC scope cl C X.env) fp) tg ts ft) (hts : ∀ i ∈ ts, i ∈ vs)
    (ht : ∀ (s : Shared) (H : Hp) (C : Addr) (cl : List (Str × Addr)) (fp : List Addr), TBs (X.blk s H scope (compEnvC scope cl C X.env) fp) ifs fc)
    (he : ∀ (s : Shared) (H : Hp) (C : Addr) (cl : List (Str × Addr)) (fp : List Addr), PV (X.blk s H scope (compEnvC scope cl C X.env) fp) elt fe) (hs : ∀ x, foldedSetIterable iter X.env x = pure x := by intro _; rfl) :
    PL X (.ListComp elt [⟨tg, iter, ifs, 0⟩] scope pos) (dComp vs fi ft fc fe) := by
  subst hvs
  exact l_comp hc hN hi ok hts hg ht he hs
theorem xs_setC (i : Nat) {y : Str} {py spos : Pos} {fi : VL.Env → Option (List D)} {fc : VL.Env → Option Bool} {fe : VL.Env → Option D} (own : List (Str × Nat)) (vs : List Nat) (hvs : own.map (·.2) = vs) (hc : X.calm = true) (hN : X.N.Nodup) (hi : IC X tg iter fi) (ok : BlkOk X.N X.env.scope scope own)
    (hg : ∀ (s : Shared) (H : Hp) (C : Addr) (cl : List (Str × Addr)) (fp : List Addr), TG1 (X.blk s H scope (compEnvC scope cl C X.env) fp) tg ts ft) (hts : ∀ i ∈ ts, i ∈ vs)
    (ht : ∀ (s : Shared) (H : Hp) (C : Addr) (cl : List (Str × Addr)) (fp : List Addr), TBs (X.blk s H scope (compEnvC scope cl C X.env) fp) ifs fc)
    (he : ∀ (s : Shared) (H : Hp) (C : Addr) (cl : List (Str × Addr)) (fp : List Addr), PV (X.blk s H scope (compEnvC scope cl C X.env) fp) elt fe)
    (hsw : swapsWith (.ListComp elt [⟨tg, iter, ifs, 0⟩] scope pos) (some (.Name y py)) spos.line X.env = pure true) (hy : X.N[i]? = some y := by rfl) (hyl : X.env.scope.names.lookup y = some .local := by rfl)
    (hs : ∀ x, foldedSetIterable iter X.env x = pure x := by intro _; rfl) :
    SV X (.Assign [.Name y py] (.ListComp elt [⟨tg, iter, ifs, 0⟩] scope pos) spos) (sSet i (fL (dComp vs fi ft fc fe))) := by
  subst hvs
  exact s_setC i hc hN hi ok hts hg ht he hsw hy hyl hs
theorem xs_setCO (i : Nat) {y : Str} {py spos : Pos} {fi : VL.Env → Option (List D)} {fc : VL.Env → Option Bool} {fe : VL.Env → Option D} (own : List (Str × Nat)) (vs : List Nat) (hvs : own.map (·.2) = vs) (hc : X.calm = true) (hN : X.N.Nodup) (hi : IC X tg iter fi) (ok : BlkOk X.N X.env.scope scope own)
    (hg : ∀ (s : Shared) (H : Hp) (C : Addr) (cl : List (Str × Addr)) (fp : List Addr), TG1 (X.blk s H scope (compEnvC scope cl C X.env) fp) tg ts ft) (hts : ∀ i ∈ ts, i ∈ vs)
    (ht : ∀ (s : Shared) (H : Hp) (C : Addr) (cl : List (Str × Addr)) (fp : List Addr), TBs (X.blk s H scope (compEnvC scope cl C X.env) fp) ifs fc)
    (he : ∀ (s : Shared) (H : Hp) (C : Addr) (cl : List (Str × Addr)) (fp : List Addr), PV (X.blk s H scope (compEnvC scope cl C X.env) fp) elt fe)
    (hsw : swapsWith (.ListComp elt [⟨tg, iter, ifs, 0⟩] scope pos) (some (.Name y py)) spos.line X.env = pure true) (hy : X.N[i]? = some y := by rfl) (hyl : X.env.scope.names.lookup y = some .local := by rfl)
    (hs : ∀ x, foldedSetIterable iter X.env x = pure x := by intro _; rfl) :
    SV X (.Assign [.Name y py] (.ListComp elt [⟨tg, iter, ifs, 0⟩] scope pos) spos) (sSetO i (oL (dComp vs fi ft fc fe))) := by
  subst hvs
  exact s_setCO i hc hN hi ok hts hg ht he hsw hy hyl hs
theorem xm_comp {fi : Mo (List D)} {fc : Mo Bool} {fe : Mo D} (own : List (Str × Nat)) (vs : List Nat) (hvs : own.map (·.2) = vs) (hc : X.calm = true) (hN : X.N.Nodup) (hi : MI X tg iter fi) (ok : BlkOk X.N X.env.scope scope own)
    (hg : ∀ (s : Shared) (H : Hp) (C : Addr) (cl : List (Str × Addr)) (fp : List Addr), TG1 (X.blk s H scope (compEnvC scope cl C X.env) fp) tg ts ft) (hts : ∀ i ∈ ts, i ∈ vs)
    (ht : ∀ (s : Shared) (H : Hp) (C : Addr) (cl : List (Str × Addr)) (fp : List Addr), MTs (X.blk s H scope (compEnvC scope cl C X.env) fp) ifs fc)
    (he : ∀ (s : Shared) (H : Hp) (C : Addr) (cl : List (Str × Addr)) (fp : List Addr), MV (X.blk s H scope (compEnvC scope cl C X.env) fp) elt fe) (hs : ∀ x, foldedSetIterable iter X.env x = pure x := by intro _; rfl) :
    MV X (.ListComp elt [⟨tg, iter, ifs, 0⟩] scope pos) (mComp vs fi ft fc fe) := by
  subst hvs
  exact m_comp hc hN hi ok hts hg ht he hs
theorem xs_setCM (i : Nat) {y : Str} {py spos : Pos} {fi : Mo (List D)} {fc : Mo Bool} {fe : Mo D} (own : List (Str × Nat)) (vs : List Nat) (hvs : own.map (·.2) = vs) (hc : X.calm = true) (hN : X.N.Nodup) (hi : MI X tg iter fi) (ok : BlkOk X.N X.env.scope scope own)
    (hg : ∀ (s : Shared) (H : Hp) (C : Addr) (cl : List (Str × Addr)) (fp : List Addr), TG1 (X.blk s H scope (compEnvC scope cl C X.env) fp) tg ts ft) (hts : ∀ i ∈ ts, i ∈ vs)
    (ht : ∀ (s : Shared) (H : Hp) (C : Addr) (cl : List (Str × Addr)) (fp : List Addr), MTs (X.blk s H scope (compEnvC scope cl C X.env) fp) ifs fc)
    (he : ∀ (s : Shared) (H : Hp) (C : Addr) (cl : List (Str × Addr)) (fp : List Addr), MV (X.blk s H scope (compEnvC scope cl C X.env) fp) elt fe)
    (hsw : swapsWith (.ListComp elt [⟨tg, iter, ifs, 0⟩] scope pos) (some (.Name y py)) spos.line X.env = pure true) (hy : X.N[i]? = some y := by rfl) (hyl : X.env.scope.names.lookup y = some .local := by rfl)
    (hs : ∀ x, foldedSetIterable iter X.env x = pure x := by intro _; rfl) :
    SV X (.Assign [.Name y py] (.ListComp elt [⟨tg, iter, ifs, 0⟩] scope pos) spos) (sSetM i (mComp vs fi ft fc fe)) := by
  subst hvs
  exact s_setCM i hc hN hi ok hts hg ht he hsw hy hyl hs
end
end VL

set_option Elab.async false
set_option linter.all false
set_option maxRecDepth 100000
/-! VL14: the plain side: data typed, loops by invariants, draws. -/
namespace VL
open PySem PySem.Spec PyProof.Rows L2
/-! ### == of data -/
mutual
/-- without bools and dicts -/
def D.nb : D → Bool
  | .lst xs => D.nbL xs
  | .tup xs => D.nbL xs
  | .dic _ _ => false
  | .bl _ => false
  | _ => true
def D.nbL : List D → Bool
  | [] => true
  | x :: xs => x.nb && D.nbL xs
end
mutual
def D.dep : D → Nat
  | .lst xs => D.depL xs + 1
  | .tup xs => D.depL xs + 1
  | _ => 0
def D.depL : List D → Nat
  | [] => 0
  | x :: xs => max x.dep (D.depL xs)
end
mutual
theorem D.nb_plain : ∀ d : D, d.nb = true → d.plain = true
  | .non, _ => rfl
  | .bl _, h => rfl
  | .int _, _ => rfl
  | .str _, _ => rfl
  | .lst xs, h => D.nbL_plain xs h
  | .tup xs, h => D.nbL_plain xs h
  | .dic _ _, h => by cases (show false = true from h)
theorem D.nbL_plain : ∀ xs : List D, D.nbL xs = true → D.plainL xs = true
  | [], _ => rfl
  | x :: xs, h => by
    have q : x.nb = true ∧ D.nbL xs = true := by simpa [D.nbL] using h
    show (x.plain && D.plainL xs) = true
    rw [D.nb_plain x q.1, D.nbL_plain xs q.2]; rfl
end
mutual
theorem D.dep_py : ∀ d : D, d.py.depth = d.dep
  | .non => rfl
  | .bl _ => rfl
  | .int _ => rfl
  | .str _ => rfl
  | .lst xs => by
    show PyData.depth (.list (D.pyL xs)) = _
    rw [PyData.depth, D.depL_py xs]; rfl
  | .tup xs => by
    show PyData.depth (.tuple (D.pyL xs)) = _
    rw [PyData.depth, D.depL_py xs]; rfl
  | .dic _ _ => rfl
theorem D.depL_py : ∀ xs : List D, PyData.depthAll (D.pyL xs) = D.depL xs
  | [] => rfl
  | x :: xs => by
    show PyData.depthAll (x.py :: D.pyL xs) = _
    rw [PyData.depthAll, D.dep_py x, D.depL_py xs]; rfl
end
mutual
theorem eqv_py : ∀ d e : D, d.nb = true → e.nb = true → (PyData.eqv d.py e.py = true ↔ d = e)
  | .non, e, _, he => by cases e <;> simp [D.py, PyData.eqv] <;> cases he
  | .bl _, _, h, _ => by cases (show false = true from h)
  | .int i, e, _, he => by cases e <;> simp [D.py, PyData.eqv] <;> cases he
  | .str x, e, _, he => by cases e <;> simp [D.py, PyData.eqv] <;> cases he
  | .lst xs, e, h, he => by
    cases e with
    | lst ys =>
      have := eqvL_py xs ys h he
      simp only [D.py, PyData.eqv, this, D.lst.injEq]
    | bl _ => cases he
    | dic _ _ => cases he
    | _ => simp [D.py, PyData.eqv]
  | .tup xs, e, h, he => by
    cases e with
    | tup ys =>
      have := eqvL_py xs ys h he
      simp only [D.py, PyData.eqv, this, D.tup.injEq]
    | bl _ => cases he
    | dic _ _ => cases he
    | _ => simp [D.py, PyData.eqv]
  | .dic _ _, _, h, _ => by cases (show false = true from h)
theorem eqvL_py : ∀ xs ys : List D, D.nbL xs = true → D.nbL ys = true → (PyData.eqvAll (D.pyL xs) (D.pyL ys) = true ↔ xs = ys)
  | [], [], _, _ => by simp [D.pyL, PyData.eqvAll]
  | [], _ :: _, _, _ => by simp [D.pyL, PyData.eqvAll]
  | _ :: _, [], _, _ => by simp [D.pyL, PyData.eqvAll]
  | x :: xs, y :: ys, h, he => by
    have q : x.nb = true ∧ D.nbL xs = true := by simpa [D.nbL] using h
    have q' : y.nb = true ∧ D.nbL ys = true := by simpa [D.nbL] using he
    simp only [D.pyL, PyData.eqvAll, Bool.and_eq_true, eqv_py x y q.1 q'.1, eqvL_py xs ys q.2 q'.2, List.cons.injEq]
end
theorem eqD_iff {d e : D} (h : d.nb = true) (h' : e.nb = true) : eqD d e = true ↔ d = e := eqv_py d e h h'
theorem eqD_self {d : D} (h : d.nb = true) : eqD d d = true := (eqD_iff h h).mpr rfl
theorem cmpOk_of {d e : D} (h : d.nb = true) (h' : e.nb = true) (k : d.dep ≤ 40) : cmpOk d e = true := by
  unfold cmpOk
  rw [D.nb_plain d h, D.nb_plain e h', D.dep_py, D.dep_py]
  simp only [Bool.and_self, Bool.true_and, decide_eq_true_eq]
  omega
theorem dEq_of {d e : D} (h : d.nb = true) (h' : e.nb = true) (k : d.dep ≤ 40) : dEq d e = some (.bl (eqD d e)) := if_pos (cmpOk_of h h' k)
theorem dNe_of {d e : D} (h : d.nb = true) (h' : e.nb = true) (k : d.dep ≤ 40) : dNe d e = some (.bl (!eqD d e)) := if_pos (cmpOk_of h h' k)
theorem dNe_self {d : D} (h : d.nb = true) (k : d.dep ≤ 40) : dNe d d = some (.bl false) := by rw [dNe_of h h k, eqD_self h]; rfl
theorem dEq_self {d : D} (h : d.nb = true) (k : d.dep ≤ 40) : dEq d d = some (.bl true) := by rw [dEq_of h h k, eqD_self h]
theorem D.nbL_iff : ∀ {xs : List D}, D.nbL xs = true ↔ ∀ x ∈ xs, x.nb = true
  | [] => by simp [D.nbL]
  | x :: xs => by simp [D.nbL, D.nbL_iff (xs := xs)]
theorem D.depL_le : ∀ {xs : List D} {n : Nat}, D.depL xs ≤ n ↔ ∀ x ∈ xs, x.dep ≤ n
  | [], n => by simp [D.depL]
  | x :: xs, n => by simp only [D.depL, List.mem_cons, forall_eq_or_imp, ← D.depL_le (xs := xs)]; omega
/-- typed data -/
class Enc (α : Type) where
  enc : α → D
  nb : ∀ a, (enc a).nb = true
  inj : ∀ {a b}, enc a = enc b → a = b
  n : Nat
  dp : ∀ a, (enc a).dep ≤ n
open Enc (enc)
instance : Enc Int := ⟨D.int, fun _ => rfl, fun h => by cases h; rfl, 0, fun _ => Nat.le_refl _⟩
instance : Enc Nat := ⟨fun n => D.int (n : Int), fun _ => rfl, fun h => by cases h; rfl, 0, fun _ => Nat.le_refl _⟩
instance {α : Type} [Enc α] : Enc (List α) where
  enc xs := .lst (xs.map enc)
  nb xs := by
    show D.nbL _ = true
    rw [D.nbL_iff]
    intro x h
    obtain ⟨a, _, rfl⟩ := List.mem_map.mp h
    exact Enc.nb a
  inj {a b} h := by
    have h := D.lst.inj h
    induction a generalizing b with
    | nil => cases b with
      | nil => rfl
      | cons _ _ => cases h
    | cons x xs ih => cases b with
      | nil => cases h
      | cons y ys =>
        simp only [List.map_cons, List.cons.injEq] at h
        rw [Enc.inj h.1, ih (congrArg D.lst h.2) h.2]
  n := Enc.n α + 1
  dp xs := by
    show D.depL _ + 1 ≤ _
    have : D.depL (xs.map enc) ≤ Enc.n α := D.depL_le.mpr fun x h => by
      obtain ⟨a, _, rfl⟩ := List.mem_map.mp h
      exact Enc.dp a
    omega
instance {α β : Type} [Enc α] [Enc β] : Enc (α × β) where
  enc p := .tup [enc p.1, enc p.2]
  nb p := by
    show ((enc p.1).nb && ((enc p.2).nb && true)) = true
    rw [Enc.nb, Enc.nb]; rfl
  inj {a b} h := by
    simp only [D.tup.injEq, List.cons.injEq, and_true] at h
    exact Prod.ext (Enc.inj h.1) (Enc.inj h.2)
  n := max (Enc.n α) (Enc.n β) + 1
  dp p := by
    show max _ (max _ 0) + 1 ≤ _
    have h1 := Enc.dp p.1
    have h2 := Enc.dp p.2
    omega
theorem dEq_enc {α : Type} [Enc α] [DecidableEq α] (a b : α) (h : Enc.n α ≤ 40) : dEq (enc a) (enc b) = some (.bl (decide (a = b))) := by
  rw [dEq_of (Enc.nb a) (Enc.nb b) (Nat.le_trans (Enc.dp a) h)]
  congr 2
  rw [Bool.eq_iff_iff, eqD_iff (Enc.nb a) (Enc.nb b), decide_eq_true_eq]
  exact ⟨Enc.inj, fun e => by rw [e]⟩
theorem dNe_enc {α : Type} [Enc α] [DecidableEq α] (a b : α) (h : Enc.n α ≤ 40) : dNe (enc a) (enc b) = some (.bl (!decide (a = b))) := by
  rw [dNe_of (Enc.nb a) (Enc.nb b) (Nat.le_trans (Enc.dp a) h)]
  congr 3
  rw [Bool.eq_iff_iff, eqD_iff (Enc.nb a) (Enc.nb b), decide_eq_true_eq]
  exact ⟨Enc.inj, fun e => by rw [e]⟩
/-! ### names, at a list of slots that is told -/
@[simp] theorem getF_0 (d : D) (env : VL.Env) : getF (some (.fz d) :: env) 0 = some d := rfl
@[simp] theorem getF_s (x : Option S) (env : VL.Env) (i : Nat) : getF (x :: env) (i + 1) = getF env i := rfl
@[simp] theorem getS_0 (s : S) (env : VL.Env) : getS (some s :: env) 0 = some s := rfl
@[simp] theorem getS_s (x : Option S) (env : VL.Env) (i : Nat) : getS (x :: env) (i + 1) = getS env i := rfl
@[simp] theorem getW_0 (d : D) (env : VL.Env) : getW (some (.fz d) :: env) 0 = some d := rfl
@[simp] theorem getW_s (x : Option S) (env : VL.Env) (i : Nat) : getW (x :: env) (i + 1) = getW env i := rfl
theorem S.noObL_fz : ∀ ds : List D, S.noObL (ds.map S.fz) = true
  | [] => rfl
  | d :: ds => by
    show (S.noOb (.fz d) && S.noObL (ds.map S.fz)) = true
    rw [S.noObL_fz ds]; rfl
theorem S.erL_fz : ∀ ds : List D, S.erL (ds.map S.fz) = ds
  | [] => rfl
  | d :: ds => by
    show d :: S.erL (ds.map S.fz) = _
    rw [S.erL_fz ds]
@[simp] theorem getW_ol (ds : List D) (env : VL.Env) : getW (some (.ol (ds.map S.fz)) :: env) 0 = some (.lst ds) := by
  show (if S.noObL (ds.map S.fz) = true then some (D.lst (S.erL (ds.map S.fz))) else none) = _
  rw [S.noObL_fz, S.erL_fz, if_pos rfl]
@[simp] theorem frS_ol (ds : List D) : frS (.ol (ds.map S.fz)) = some (.lst ds) := by
  show (if S.noObL (ds.map S.fz) = true then some (D.lst (S.erL (ds.map S.fz))) else none) = _
  rw [S.noObL_fz, S.erL_fz, if_pos rfl]
theorem S.noObK_fz : ∀ ds : List (D × D), S.noObK (fzK ds) = true
  | [] => rfl
  | (k, d) :: ds => by
    show (S.noOb (.fz d) && S.noObK (fzK ds)) = true
    rw [S.noObK_fz ds]; rfl
theorem S.erK_fz : ∀ ds : List (D × D), S.erK (fzK ds) = ds
  | [] => rfl
  | (k, d) :: ds => by
    show (k, d) :: S.erK (fzK ds) = _
    rw [S.erK_fz ds]
@[simp] theorem getW_od (t : Bool) (ds : List (D × D)) (env : VL.Env) : getW (some (.od t (fzK ds)) :: env) 0 = some (.dic t ds) := by
  show (if S.noObK (fzK ds) = true then some (D.dic t (S.erK (fzK ds))) else none) = _
  rw [S.noObK_fz, S.erK_fz, if_pos rfl]
@[simp] theorem frS_od (t : Bool) (ds : List (D × D)) : frS (.od t (fzK ds)) = some (.dic t ds) := by
  show (if S.noObK (fzK ds) = true then some (D.dic t (S.erK (fzK ds))) else none) = _
  rw [S.noObK_fz, S.erK_fz, if_pos rfl]
/-! ### loops -/
/-- a comprehension, typed -/
theorem compD_map {α : Type} {ft : D → VL.Env → Option VL.Env} {fc : VL.Env → Option Bool} {fe : VL.Env → Option D} {env : VL.Env} {en : α → D} {c : α → Bool} {g : α → D} : ∀ {xs : List α},
    (∀ x ∈ xs, ∃ e1, ft (en x) env = some e1 ∧ fc e1 = some (c x) ∧ (c x = true → fe e1 = some (g x))) → compD ft fc fe env (xs.map en) = some ((xs.filter c).map g)
  | [], _ => rfl
  | x :: xs, h => by
    obtain ⟨e1, h1, h2, h3⟩ := h x (List.mem_cons_self ..)
    have ih := compD_map (xs := xs) fun y m => h y (List.mem_cons_of_mem _ m)
    show (ft (en x) env).bind _ = _
    rw [h1]
    show (fc e1).bind _ = _
    rw [h2]
    show (if c x = true then _ else _) = _
    by_cases b : c x = true
    · rw [if_pos b, h3 b]
      show (compD ft fc fe env (xs.map en)).map _ = _
      rw [ih, List.filter_cons_of_pos b]; rfl
    · rw [if_neg b, ih, List.filter_cons_of_neg b]
theorem rangeD_eq (lo : Int) (n : Nat) : rangeD lo n = (List.range n).map fun (i : Nat) => D.int (lo + (i : Int)) := rfl
theorem rangeD_0 (n : Nat) : rangeD 0 n = (List.range n).map fun (i : Nat) => D.int (i : Int) := by
  rw [rangeD_eq]
  refine List.map_congr_left fun i _ => ?_
  rw [Int.zero_add]
/-- what comes behind a statement -/
def wp (o : Option Out) (Q : Out → Prop) : Prop := ∃ u, o = some u ∧ Q u
@[simp] theorem wp_some (u : Out) (Q : Out → Prop) : wp (some u) Q ↔ Q u := ⟨fun ⟨_, e, q⟩ => by cases e; exact q, fun q => ⟨u, rfl, q⟩⟩
theorem wp.mono {o : Option Out} {Q R : Out → Prop} (h : wp o Q) (k : ∀ u, Q u → R u) : wp o R := let ⟨u, e, q⟩ := h; ⟨u, e, k u q⟩
theorem wp_sq {f g : VL.Env → Option Out} {env : VL.Env} {Q : Out → Prop} (h : wp (f env) fun o => match o with
  | .nx e => wp (g e) Q
  | o => Q o) : wp (sq f g env) Q := by
  obtain ⟨u, e, q⟩ := h
  unfold sq
  rw [e]
  cases u with
  | nx e' => exact q
  | rt s e' => exact ⟨_, rfl, q⟩
  | bk e' => exact ⟨_, rfl, q⟩
  | ct e' => exact ⟨_, rfl, q⟩
theorem wp_for {ft : D → VL.Env → Option VL.Env} {fb : VL.Env → Option Out} {Q : Out → Prop} (I : Nat → VL.Env → Prop) : ∀ {xs : List D} {env : VL.Env} (k0 : Nat), I k0 env →
    (∀ (k : Nat) (d : D) (e : VL.Env), xs[k]? = some d → I (k0 + k) e → ∃ e1, ft d e = some e1 ∧ wp (fb e1) fun o => match o with
      | .nx e2 => I (k0 + k + 1) e2
      | .ct e2 => I (k0 + k + 1) e2
      | .bk e2 => Q (.nx e2)
      | .rt s e2 => Q (.rt s e2)) → (∀ e, I (k0 + xs.length) e → Q (.nx e)) → wp (forD ft fb xs env) Q
  | [], env, k0, h0, _, he => ⟨_, rfl, he env h0⟩
  | d :: ds, env, k0, h0, hs, he => by
    obtain ⟨e1, h1, u, h2, h3⟩ := hs 0 d env rfl h0
    have hs' : ∀ (k : Nat) (d : D) (e : VL.Env), ds[k]? = some d → I (k0 + 1 + k) e → ∃ e1, ft d e = some e1 ∧ wp (fb e1) fun o => match o with
      | .nx e2 => I (k0 + 1 + k + 1) e2
      | .ct e2 => I (k0 + 1 + k + 1) e2
      | .bk e2 => Q (.nx e2)
      | .rt s e2 => Q (.rt s e2) := fun k d e h i => by
        have := hs (k + 1) d e h (by rwa [show k0 + (k + 1) = k0 + 1 + k by omega])
        rwa [show k0 + (k + 1) + 1 = k0 + 1 + k + 1 by omega] at this
    have he' : ∀ e, I (k0 + 1 + ds.length) e → Q (.nx e) := fun e i => he e (by rw [List.length_cons]; rwa [show k0 + (ds.length + 1) = k0 + 1 + ds.length by omega])
    show wp ((ft d env).bind _) Q
    rw [h1]
    show wp ((fb e1).bind _) Q
    rw [h2]
    cases u with
    | nx e2 => exact wp_for I (k0 + 1) h3 hs' he'
    | ct e2 => exact wp_for I (k0 + 1) h3 hs' he'
    | bk e2 => exact ⟨_, rfl, h3⟩
    | rt s e2 => exact ⟨_, rfl, h3⟩
/-- for k in range(n) -/
theorem wp_range {ft : D → VL.Env → Option VL.Env} {fb : VL.Env → Option Out} {Q : Out → Prop} {n : Nat} {lo : Int} {env : VL.Env} (I : Nat → VL.Env → Prop) (h0 : I 0 env)
    (hs : ∀ (k : Nat) (e : VL.Env), k < n → I k e → ∃ e1, ft (.int (lo + (k : Int))) e = some e1 ∧ wp (fb e1) fun o => match o with
      | .nx e2 => I (k + 1) e2
      | .ct e2 => I (k + 1) e2
      | .bk e2 => Q (.nx e2)
      | .rt s e2 => Q (.rt s e2)) (he : ∀ e, I n e → Q (.nx e)) : wp (forD ft fb (rangeD lo n) env) Q := by
  have hl : (rangeD lo n).length = n := by rw [rangeD_eq, List.length_map, List.length_range]
  refine wp_for I 0 h0 (fun k d e h i => ?_) (fun e i => he e (by rwa [hl, Nat.zero_add] at i))
  have hk : k < n := by rw [← hl]; exact (List.getElem?_eq_some_iff.mp h).1
  rw [Nat.zero_add] at i ⊢
  rw [rangeD_eq, List.getElem?_map, List.getElem?_range hk] at h
  cases h
  exact hs k e hk i
/-- a def's answer -/
theorem fnS_of {np n : Nat} {fb : VL.Env → Option Out} {ds : List D} {s : S} (hl : ds.length = np) (h : wp (fb (startE n ds)) fun o => retS o = some s) : fnS np n fb ds = some s := by
  obtain ⟨u, e, q⟩ := h
  unfold fnS
  rw [if_pos hl, e]
  exact q
theorem rng1_nat {n : Nat} (h : n ≤ sizeLine) : rng1 [.int (n : Int)] = some (rangeD 0 n) := by
  show (if _ then _ else _) = _
  rw [Int.natAbs_natCast, if_pos h]; rfl
theorem rng1_int {n : Int} (h : n.natAbs ≤ sizeLine) : rng1 [.int n] = some (rangeD 0 n.toNat) := if_pos h
/-! ### draws -/
theorem mI_take {i : Nat} {env env' : VL.Env} {m : Int} {p : Addr} {n : Int} {cs : List Int} {fs : Mo (List D)} (h0 : 0 < m) (hm : m.natAbs < 2 ^ 64) (hc : cs ≠ []) (g : getS env i = some (.at p (stS n cs))) (hf : fs env = some ([.int m], env)) :
    ∃ (x : Int) (n' : Int) (cs' : List Int), 0 ≤ x ∧ x < m ∧ cs' ≠ [] ∧ mI i fs takeS env = some (.int x, env.set i (some (.at p (stS n' cs')))) := by
  refine ⟨(takeF n cs m).1, (takeF n cs m).2.1, (takeF n cs m).2.2, (takeF_lt h0).1, (takeF_lt h0).2, takeF_ne hc, ?_⟩
  simp only [mI, g, hf, Option.bind_some, atOf_at, takeS_eq h0 hm hc, Option.map_some]
end VL

set_option Elab.async false
set_option linter.all false
set_option maxRecDepth 100000
/-! VL15: places of lists, dicts, on the plain side. -/
namespace VL
open PySem PySem.Spec PyProof.Rows L2
open Enc (enc)
theorem ixN_nat (n k : Nat) : ixN n (k : Int) = if k < n then some k else none := by
  unfold ixN
  rw [if_pos (Int.natCast_nonneg k)]
  by_cases h : k < n
  · rw [if_pos (by omega), if_pos h]; rfl
  · rw [if_neg (by omega), if_neg h]
theorem atI_nat {α : Type} (xs : List α) (k : Nat) : atI xs (k : Int) = xs[k]? := by
  unfold atI
  rw [ixN_nat]
  split
  · rfl
  · rename_i h
    rw [List.getElem?_eq_none (by omega)]; rfl
@[simp] theorem atI_0 {α : Type} (x : α) (xs : List α) : atI (x :: xs) 0 = some x := atI_nat (x :: xs) 0
@[simp] theorem atI_1 {α : Type} (x y : α) (xs : List α) : atI (x :: y :: xs) 1 = some y := atI_nat (x :: y :: xs) 1
@[simp] theorem atI_2 {α : Type} (x y z : α) (xs : List α) : atI (x :: y :: z :: xs) 2 = some z := atI_nat (x :: y :: z :: xs) 2
@[simp] theorem atI_3 {α : Type} (x y z w : α) (xs : List α) : atI (x :: y :: z :: w :: xs) 3 = some w := atI_nat (x :: y :: z :: w :: xs) 3
@[simp] theorem dIx_lst (xs : List D) (i : Int) : dIx (.lst xs) (.int i) = atI xs i := rfl
@[simp] theorem dIx_tup (xs : List D) (i : Int) : dIx (.tup xs) (.int i) = atI xs i := rfl
/-- a comprehension without a condition, typed -/
theorem compD_all {α : Type} {ft : D → VL.Env → Option VL.Env} {fc : VL.Env → Option Bool} {fe : VL.Env → Option D} {env : VL.Env} {en : α → D} {g : α → D} {xs : List α}
    (h : ∀ x ∈ xs, ∃ e1, ft (en x) env = some e1 ∧ fc e1 = some true ∧ fe e1 = some (g x)) : compD ft fc fe env (xs.map en) = some (xs.map g) := by
  rw [compD_map (c := fun _ => true) (g := g), List.filter_eq_self.mpr fun _ _ => rfl]
  intro x m
  obtain ⟨e1, h1, h2, h3⟩ := h x m
  exact ⟨e1, h1, h2, fun _ => h3⟩
/-! ### dicts with tuples as keys -/
theorem lookT_put (k k' : List Key) (d : D) : ∀ kvs : List (D × D), lookT k (putTD k' d kvs) = if k' = k then some d else lookT k kvs := by
  have aux1 : ∀ kvs : List (D × D), (kvs.any fun p => decide (tkeyD p.1 = some k')) = true → lookT k (kvs.map fun p => if tkeyD p.1 = some k' then (p.1, d) else p) = if k' = k then some d else lookT k kvs := by
    intro kvs
    induction kvs with
    | nil => intro h; cases h
    | cons p kvs ih =>
      intro h
      have step : ∀ l, lookT k ((if tkeyD p.1 = some k' then (p.1, d) else p) :: l) = if tkeyD p.1 = some k then (if tkeyD p.1 = some k' then some d else some p.2) else lookT k l := by
        intro l
        by_cases c : tkeyD p.1 = some k'
        · rw [if_pos c]
          show (if tkeyD p.1 = some k then some d else _) = _
          rw [if_pos c]
        · rw [if_neg c]
          obtain ⟨a, b⟩ := p
          show (if tkeyD a = some k then some b else _) = _
          rw [if_neg c]
      rw [List.map_cons, step]
      have hp : lookT k (p :: kvs) = if tkeyD p.1 = some k then some p.2 else lookT k kvs := rfl
      rw [hp]
      by_cases c : tkeyD p.1 = some k
      · rw [if_pos c, if_pos c]
        by_cases c' : k' = k
        · subst c'; rw [if_pos c, if_pos rfl]
        · rw [if_neg (fun e => c' (Option.some.inj (e.symm.trans c))), if_neg c']
      · rw [if_neg c, if_neg c]
        by_cases z : (kvs.any fun p => decide (tkeyD p.1 = some k')) = true
        · exact ih z
        · have z' : ∀ q ∈ kvs, tkeyD q.1 ≠ some k' := by simpa using z
          have hk : tkeyD p.1 = some k' := by
            rw [List.any_cons] at h
            cases hh : decide (tkeyD p.1 = some k') with
            | true => exact of_decide_eq_true hh
            | false => rw [hh] at h; exact absurd h z
          have e : (kvs.map fun p => if tkeyD p.1 = some k' then (p.1, d) else p) = kvs := by
            conv => rhs; rw [← List.map_id kvs]
            exact List.map_congr_left fun q m => if_neg (z' q m)
          rw [e, if_neg (fun e => c (by rw [hk, e]))]
  intro kvs
  unfold putTD
  split
  · rename_i h; exact aux1 kvs h
  · rename_i h
    have h' : ∀ q ∈ kvs, tkeyD q.1 ≠ some k' := by simpa using h
    clear aux1 h
    induction kvs with
    | nil =>
      show (if keysD (k'.map kD) = some k then some d else none) = _
      rw [keysD_map]
      by_cases c : k' = k
      · rw [if_pos (by rw [c]), if_pos c]
      · rw [if_neg (fun e => c (Option.some.inj e)), if_neg c]; rfl
    | cons p kvs ih =>
      obtain ⟨a, b⟩ := p
      show (if tkeyD a = some k then some b else lookT k (kvs ++ _)) = if k' = k then some d else if tkeyD a = some k then some b else lookT k kvs
      rw [ih fun q m => h' q (List.mem_cons_of_mem _ m)]
      by_cases c : k' = k
      · subst c
        rw [if_neg (h' (a, b) (List.mem_cons_self ..)), if_pos rfl, if_pos rfl]
      · rw [if_neg c, if_neg c]
theorem putTD_len (k : List Key) (d : D) (kvs : List (D × D)) : (putTD k d kvs).length ≤ kvs.length + 1 := by
  unfold putTD
  split
  · rw [List.length_map]; omega
  · rw [List.length_append]; exact Nat.le_refl _
theorem dPutT {kvs : List (D × D)} {k : D} {ks : List Key} {d : D} (h : tkeyD k = some ks) (hl : kvs.length < sizeLine) : dPut (true, kvs) k d = some (putTD ks d kvs) := by
  show (if _ then (tkeyD k).map _ else none) = _
  rw [if_pos hl, h]; rfl
theorem dIxT {kvs : List (D × D)} {k : D} {ks : List Key} (h : tkeyD k = some ks) : dIx (.dic true kvs) k = lookT ks kvs := by
  show ((tkeyD k).map _).join = _
  rw [h]; rfl
@[simp] theorem truD_bl (b : Bool) : truD (.bl b) = some b := rfl
@[simp] theorem truE_bl (b : Bool) : truE (.bl b) = some b := rfl
@[simp] theorem scal_int (i : Int) : scal (.int i) = some (.int i) := rfl
theorem find_none {p : Nat → Bool} {n : Nat} (h : ∀ k, k < n → p k = false) : (List.range n).find? p = none := List.find?_eq_none.mpr fun x m => by simp [h x (List.mem_range.mp m)]
theorem find_some {p : Nat → Bool} {n k : Nat} (hk : k < n) (h : p k = true) (h' : ∀ j, j < k → p j = false) : (List.range n).find? p = some k := by
  rw [List.find?_range_eq_some]
  exact ⟨h, List.mem_range.mpr hk, fun j hj => by simp [h' j hj]⟩
theorem find_ok {p : Nat → Bool} {n k : Nat} (h : (List.range n).find? p = some k) : k < n ∧ p k = true ∧ ∀ j, j < k → p j = false := by
  rw [List.find?_range_eq_some] at h
  exact ⟨List.mem_range.mp h.2.1, h.1, fun j hj => by simpa using h.2.2 j hj⟩
theorem find_no {p : Nat → Bool} {n : Nat} (h : (List.range n).find? p = none) : ∀ k, k < n → p k = false := fun k hk => by
  have := List.find?_eq_none.mp h k (List.mem_range.mpr hk)
  simpa using this
/-! ### statements, one by one -/
section
variable {env : VL.Env} {Q : Out → Prop} {f g : VL.Env → Option Out}
theorem wp_set {i : Nat} {fe : VL.Env → Option D} {d : D} (h : fe env = some d) (q : Q (.nx (env.set i (some (.fz d))))) : wp (sSet i fe env) Q := ⟨_, by rw [sSet, h]; rfl, q⟩
theorem wp_if {c : VL.Env → Option Bool} {b : Bool} (h : c env = some b) (q : if b = true then wp (f env) Q else wp (g env) Q) : wp (sIf c f g env) Q := by
  unfold sIf
  rw [h]
  cases b
  · exact q
  · exact q
theorem wp_ret {fe : VL.Env → Option D} {d : D} (h : fe env = some d) (q : Q (.rt (.fz d) env)) : wp (sRet fe env) Q := ⟨_, by rw [sRet, h]; rfl, q⟩
end
end VL

set_option Elab.async false
set_option linter.all false
set_option maxRecDepth 100000
/-! VL16: draws, step by step; in, of typed data. -/
namespace VL
open PySem PySem.Spec PyProof.Rows L2
open Enc (enc)
theorem inOk_of {d : D} {ds : List D} (h : d.nb = true) (h' : D.nbL ds = true) (k : d.dep ≤ 40) : inOk d ds = true := by
  unfold inOk
  rw [D.nb_plain d h, D.nbL_plain ds h', D.dep_py, D.depL_py]
  simp only [Bool.and_self, Bool.true_and, decide_eq_true_eq]
  omega
theorem inD_iff {d : D} {ds : List D} (h : d.nb = true) (h' : D.nbL ds = true) : inD d ds = true ↔ d ∈ ds := by
  unfold inD
  rw [List.any_eq_true]
  constructor
  · rintro ⟨x, m, e⟩
    rw [(eqD_iff (D.nbL_iff.mp h' x m) h).mp e] at m
    exact m
  · intro m
    exact ⟨d, m, eqD_self h⟩
theorem nbL_enc {α : Type} [Enc α] (xs : List α) : D.nbL (xs.map enc) = true := D.nbL_iff.mpr fun x m => by
  obtain ⟨a, _, rfl⟩ := List.mem_map.mp m
  exact Enc.nb a
theorem inD_enc {α : Type} [Enc α] [DecidableEq α] (a : α) (xs : List α) : inD (enc a) (xs.map enc) = decide (a ∈ xs) := by
  rw [Bool.eq_iff_iff, inD_iff (Enc.nb a) (nbL_enc xs), decide_eq_true_eq, List.mem_map]
  constructor
  · rintro ⟨b, m, e⟩
    rw [← Enc.inj e]; exact m
  · intro m
    exact ⟨a, m, rfl⟩
theorem dIn_lst {d : D} {ds : List D} (h : d.nb = true) (h' : D.nbL ds = true) (k : d.dep ≤ 40) : dIn d (.lst ds) = some (.bl (inD d ds)) := by
  show (if _ then _ else _) = _
  rw [if_pos (inOk_of h h' k)]
theorem dNotIn_lst {d : D} {ds : List D} (h : d.nb = true) (h' : D.nbL ds = true) (k : d.dep ≤ 40) : dNotIn d (.lst ds) = some (.bl (!inD d ds)) := by
  show (if _ then _ else _) = _
  rw [if_pos (inOk_of h h' k)]
theorem dIn_enc {α : Type} [Enc α] [DecidableEq α] (a : α) (xs : List α) (h : Enc.n α ≤ 40) : dIn (enc a) (.lst (xs.map enc)) = some (.bl (decide (a ∈ xs))) := by
  rw [dIn_lst (Enc.nb a) (nbL_enc xs) (Nat.le_trans (Enc.dp a) h), inD_enc]
theorem dNotIn_enc {α : Type} [Enc α] [DecidableEq α] (a : α) (xs : List α) (h : Enc.n α ≤ 40) : dNotIn (enc a) (.lst (xs.map enc)) = some (.bl (!decide (a ∈ xs))) := by
  rw [dNotIn_lst (Enc.nb a) (nbL_enc xs) (Nat.le_trans (Enc.dp a) h), inD_enc]
/-! ### expressions that draw -/
def wm {α : Type} (o : Option (α × VL.Env)) (Q : α → VL.Env → Prop) : Prop := ∃ x e, o = some (x, e) ∧ Q x e
section
variable {env : VL.Env} {α : Type}
theorem wm_pur {f : VL.Env → Option α} {x : α} {Q : α → VL.Env → Prop} (h : f env = some x) (q : Q x env) : wm (pur f env) Q := ⟨x, env, by rw [pur, h]; rfl, q⟩
theorem wm_2 {fa fb : Mo D} {g : D → D → Option D} {Q : D → VL.Env → Prop} (h : wm (fa env) fun x e => wm (fb e) fun y e' => ∃ z, g x y = some z ∧ Q z e') : wm (m2 fa fb g env) Q := by
  obtain ⟨x, e, h1, y, e', h2, z, h3, q⟩ := h
  exact ⟨z, e', by simp only [m2, h1, h2, h3, Option.bind_some, Option.map_some], q⟩
theorem wm_take {i : Nat} {m : Int} {p : Addr} {n : Int} {cs : List Int} {fs : Mo (List D)} {Q : D → VL.Env → Prop} (hc : cs ≠ []) (h0 : 0 < m) (hm : m.natAbs < 2 ^ 64) (g : getS env i = some (.at p (stS n cs))) (hf : fs env = some ([.int m], env))
    (q : ∀ (x n' : Int) (cs' : List Int), 0 ≤ x → x < m → cs' ≠ [] → Q (.int x) (env.set i (some (.at p (stS n' cs'))))) : wm (mI i fs takeS env) Q := by
  obtain ⟨x, n', cs', h1, h2, h3, e⟩ := mI_take (env' := env) h0 hm hc g hf
  exact ⟨_, _, e, q x n' cs' h1 h2 h3⟩
theorem wm_cons {f : Mo D} {g : Mo (List D)} {Q : List D → VL.Env → Prop} (h : wm (f env) fun x e => wm (g e) fun y e' => Q (x :: y) e') : wm (maC f g env) Q := by
  obtain ⟨x, e, h1, y, e', h2, q⟩ := h
  exact ⟨_, e', by simp only [maC, h1, h2, Option.bind_some, Option.map_some], q⟩
theorem wm_nil {Q : List D → VL.Env → Prop} (q : Q [] env) : wm (mA0 env) Q := ⟨[], env, rfl, q⟩
theorem ma1 {f : VL.Env → Option D} {x : D} (h : f env = some x) : maC (pur f) mA0 env = some ([x], env) := by
  simp only [maC, pur, h, Option.map_some, Option.bind_some]
theorem wm_tup {f : Mo (List D)} {Q : D → VL.Env → Prop} (h : wm (f env) fun x e => x.length < 1000 ∧ Q (.tup x) e) : wm (mTup f env) Q := by
  obtain ⟨x, e, h1, h2, q⟩ := h
  exact ⟨_, e, by simp only [mTup, h1, Option.bind_some, if_pos h2], q⟩
theorem wm_lst {f : Mo (List D)} {Q : D → VL.Env → Prop} (h : wm (f env) fun x e => x.length < 1000 ∧ Q (.lst x) e) : wm (mLst f env) Q := by
  obtain ⟨x, e, h1, h2, q⟩ := h
  exact ⟨_, e, by simp only [mLst, h1, Option.bind_some, if_pos h2], q⟩
theorem wm_tb {f : Mo D} {Q : Bool → VL.Env → Prop} (h : wm (f env) fun x e => ∃ b, bOf x = some b ∧ Q b e) : wm (mtb f env) Q := by
  obtain ⟨x, e, h1, b, h2, q⟩ := h
  exact ⟨b, e, by simp only [mtb, h1, h2, Option.bind_some, Option.map_some], q⟩
theorem wm_and {f g : Mo Bool} {Q : Bool → VL.Env → Prop} (h : wm (f env) fun x e => if x = true then wm (g e) Q else Q false e) : wm (mAnd f g env) Q := by
  obtain ⟨x, e, h1, q⟩ := h
  cases x
  · exact ⟨false, e, by simp only [mAnd, h1, Option.bind_some]; rfl, q⟩
  · obtain ⟨y, e', h2, q⟩ := q
    exact ⟨y, e', by simp only [mAnd, h1, Option.bind_some, if_true, h2], q⟩
theorem wm_or {f g : Mo Bool} {Q : Bool → VL.Env → Prop} (h : wm (f env) fun x e => if x = true then Q true e else wm (g e) Q) : wm (mOr f g env) Q := by
  obtain ⟨x, e, h1, q⟩ := h
  cases x
  · obtain ⟨y, e', h2, q⟩ := q
    exact ⟨y, e', by simp only [mOr, h1, Option.bind_some, h2]; rfl, q⟩
  · exact ⟨true, e, by simp only [mOr, h1, Option.bind_some, if_true], q⟩
theorem wm_not {f : Mo Bool} {Q : Bool → VL.Env → Prop} (h : wm (f env) fun x e => Q (!x) e) : wm (mNot f env) Q := by
  obtain ⟨x, e, h1, q⟩ := h
  exact ⟨!x, e, by simp only [mNot, h1, Option.map_some], q⟩
theorem wm_if {c : Mo Bool} {f g : Mo D} {Q : D → VL.Env → Prop} (h : wm (c env) fun x e => if x = true then wm (f e) Q else wm (g e) Q) : wm (mIf c f g env) Q := by
  obtain ⟨x, e, h1, q⟩ := h
  cases x
  · obtain ⟨y, e', h2, q⟩ := q
    exact ⟨y, e', by simp only [mIf, h1, Option.bind_some]; exact h2, q⟩
  · obtain ⟨y, e', h2, q⟩ := q
    exact ⟨y, e', by simp only [mIf, h1, Option.bind_some, if_true]; exact h2, q⟩
variable {Q : Out → Prop}
theorem wp_setM {i : Nat} {fe : Mo D} (h : wm (fe env) fun x e => Q (.nx (e.set i (some (.fz x))))) : wp (sSetM i fe env) Q := by
  obtain ⟨x, e, h1, q⟩ := h
  exact ⟨_, by rw [sSetM, h1]; rfl, q⟩
theorem wp_ifM {c : Mo Bool} {f g : VL.Env → Option Out} (h : wm (c env) fun b e => if b = true then wp (f e) Q else wp (g e) Q) : wp (sIfM c f g env) Q := by
  obtain ⟨b, e, h1, q⟩ := h
  unfold sIfM
  rw [h1]
  cases b
  · exact q
  · exact q
theorem wp_setO {i : Nat} {fe : VL.Env → Option S} {s : S} (h : fe env = some s) (q : Q (.nx (env.set i (some s)))) : wp (sSetO i fe env) Q := ⟨_, by rw [sSetO, h]; rfl, q⟩
theorem wp_appM {i : Nat} {fe : Mo D} {ds : List D} (h0 : getS env i = some (.ol (ds.map S.fz))) (h : wm (fe env) fun x e => ∃ ds' : List D, getS e i = some (.ol (ds'.map S.fz)) ∧ ds'.length < sizeLine ∧ Q (.nx (e.set i (some (.ol ((ds' ++ [x]).map S.fz)))))) : wp (sAppM i fe env) Q := by
  obtain ⟨x, e, h1, ds', h2, h3, q⟩ := h
  exact ⟨_, by simp only [sAppM, h0, olOf_ol, Option.bind_some, h1, h2, if_pos h3], q⟩
theorem wp_putLM {i : Nat} {fk : VL.Env → Option D} {fe : Mo D} (h : wm (fe env) fun x e => ∃ (ds : List D) (k : Int) (j : Nat), getS e i = some (.ol (ds.map S.fz)) ∧ fk e = some (.int k) ∧ ixN ds.length k = some j ∧ Q (.nx (e.set i (some (.ol ((ds.set j x).map S.fz)))))) : wp (sPutLM i fk fe env) Q := by
  obtain ⟨x, e, h1, ds, k, j, h2, h3, h4, q⟩ := h
  exact ⟨_, by simp only [sPutLM, h1, h2, olOf_ol, Option.bind_some, h3, intOf, h4, Option.map_some], q⟩
theorem wp_fz {i : Nat} {f : VL.Env → Option Out} {s : S} {d : D} (h : getS env i = some s) (hd : frS s = some d) (q : wp (f (env.set i (some (.fz d)))) Q) : wp (dFz i f env) Q := by
  obtain ⟨u, e, q⟩ := q
  exact ⟨u, by simp only [dFz, frzE, h, hd, Option.bind_some, Option.map_some, e], q⟩
theorem wp_putT {i : Nat} {fk fe : VL.Env → Option D} {kvs : List (D × D)} {k d : D} {ks : List Key} (h1 : fe env = some d) (h2 : getS env i = some (.od true (fzK kvs))) (h3 : fk env = some k) (h4 : tkeyD k = some ks) (h5 : kvs.length < sizeLine)
    (q : Q (.nx (env.set i (some (.od true (fzK (putTD ks d kvs))))))) : wp (sPutD i fk fe env) Q := by
  exact ⟨_, by simp only [sPutD, h1, h2, odOf_od, h3, Option.bind_some, dPutT h4 h5, Option.map_some], q⟩
end
end VL

set_option Elab.async false
set_option linter.all false
set_option maxRecDepth 100000
/-! VL17: sorted, min, max of alike data. -/
namespace VL
open PySem PySem.Spec PyProof.Rows L2
open Enc (enc)
/-- d < e, of alike data -/
def ltD (d e : D) : Bool := PySem.W.dataLt d.py e.py
def leD (d e : D) : Bool := PySem.W.dataLe false D.py d e
theorem leD_eq (d e : D) : leD d e = !ltD e d := rfl
def sortD (ds : List D) : List D := ds.mergeSort leD
def D.key : D → Bool
  | .tup (_ :: _) => true
  | _ => false
def D.noKey : D → Bool
  | .tup _ => false
  | .non => false
  | .dic _ _ => false
  | _ => true
/-- the items can be compared with one another -/
def alikeL (ds : List D) : Bool := ds.all fun d => d.plain && decide (d.dep ≤ 40) && ds.all fun e => PySem.W.alike d.py e.py
def sortOk (ds : List D) : Bool := alikeL ds && (ds.all D.key || ds.all D.noKey) && decide (ds.length ≤ sizeLine)
theorem alikeL_ok {ds : List D} (h : alikeL ds = true) : (∀ d ∈ ds, d.plain = true ∧ d.dep ≤ 40) ∧ ∀ d ∈ ds, ∀ e ∈ ds, PySem.W.alike d.py e.py = true := by
  unfold alikeL at h
  rw [List.all_eq_true] at h
  refine ⟨fun d m => ?_, fun d m e n => ?_⟩
  · have := h d m
    simp only [Bool.and_eq_true, decide_eq_true_eq] at this
    exact this.1
  · have := h d m
    simp only [Bool.and_eq_true] at this
    exact List.all_eq_true.mp this.2 e n
theorem sortOk_ok {ds : List D} (h : sortOk ds = true) : alikeL ds = true ∧ PySem.W.AllAlike (ds.map D.py) ∧ PySem.W.Sortable (ds.map D.py) ∧ ds.length ≤ sizeLine := by
  unfold sortOk at h
  simp only [Bool.and_eq_true, Bool.or_eq_true, decide_eq_true_eq] at h
  refine ⟨h.1.1, fun d m d' m' => ?_, ?_, h.2⟩
  · obtain ⟨a, ha, rfl⟩ := List.mem_map.mp m
    obtain ⟨b, hb, rfl⟩ := List.mem_map.mp m'
    exact (alikeL_ok h.1.1).2 a ha b hb
  · rcases h.1.2 with k | k
    · refine .inl fun d m => ?_
      obtain ⟨a, ha, rfl⟩ := List.mem_map.mp m
      have := List.all_eq_true.mp k a ha
      cases a with
      | tup xs =>
        cases xs with
        | nil => cases this
        | cons x xs => exact ⟨x.py, D.pyL xs, rfl⟩
      | _ => cases this
    · refine .inr fun d m => ?_
      obtain ⟨a, ha, rfl⟩ := List.mem_map.mp m
      have := List.all_eq_true.mp k a ha
      cases a with
      | tup _ => cases this
      | non => cases this
      | dic _ _ => cases this
      | bl _ => exact ⟨(by intro h; cases h), (by intro _ h; cases h)⟩
      | int _ => exact ⟨(by intro h; cases h), (by intro _ h; cases h)⟩
      | str _ => exact ⟨(by intro h; cases h), (by intro _ h; cases h)⟩
      | lst _ => exact ⟨(by intro h; cases h), (by intro _ h; cases h)⟩
section
variable {K : PySem.W.Frag} {G H : Hp}
/-- a value stands for a datum -/
def StF (K : PySem.W.Frag) (G : Hp) (u : Value) (d : D) : Prop := ∃ x, RelV x u ∧ Rp K G x d
theorem each_of : ∀ {xs : List V} {us : List Value} {ds : List D}, Vals xs us → RpL K G xs ds → PySem.W.EachIs (StF K G) us ds
  | [], _, _, v, r => by
    cases r
    cases v
    exact .nil
  | x :: xs, _, _, v, r => by
    cases r with
    | cons r1 r2 =>
      cases v with
      | cons v1 v2 => exact .cons ⟨x, v1, r1⟩ (each_of v2 r2)
theorem of_each : ∀ {us : List Value} {ds : List D}, PySem.W.EachIs (StF K G) us ds → ∃ xs, Vals xs us ∧ RpL K G xs ds
  | _, _, .nil => ⟨[], .nil, .nil⟩
  | _, _, .cons ⟨x, v, r⟩ t => by
    obtain ⟨xs, h1, h2⟩ := of_each t
    exact ⟨x :: xs, .cons v h1, .cons r h2⟩
end
section
variable {X : Cx} {pins : List (Addr × Obj)} {s : Shared} {σ : L2.St} {G H : Hp}
theorem each_reads (I : Inv X pins σ H s) (sm : Same G H) : ∀ {xs : List V} {us : List Value} {ds : List D}, Vals xs us → RpL X.K G xs ds → (∀ d ∈ ds, d.plain = true) → PySem.W.EachIs (fun v (b : D) => ∃ as, Reads s.heap v b.py as) us ds
  | [], _, _, v, r, _ => by
    cases r
    cases v
    exact .nil
  | x :: xs, _, _, v, r, hp => by
    cases r with
    | cons r1 r2 =>
      cases v with
      | cons v1 v2 => exact .cons (Dp.reads I _ _ _ ((r1.up sm).dp _ _ (hp _ (List.mem_cons_self ..))) v1) (each_reads I sm v2 r2 fun d m => hp d (List.mem_cons_of_mem _ m))
end
def rSortedA (K : PySem.W.Frag) : List V → Hp → VK → Prop := fun vs H Q => ∃ (G : Hp) (a : Addr) (xs : List V) (ds : List D), vs = [V.ref a] ∧ SqL K H a xs ∧ Same G H ∧ RpL K G xs ds ∧ sortOk ds = true ∧
  ∀ (ys : List V) (p : Addr), RpL K G ys (sortD ds) → H p = none → Q (.ref p) (upd H p (.lst ys))
section
variable {X : Cx}
theorem cr_sortedA {k : Nat} (hr : Room k X.A) : CallR X (.builtin "sorted") (rSortedA X.K) := by
  intro pins s σ H vs us Q I r h
  obtain ⟨G, a, xs, ds, rfl, hs, sm, rp, ok, q⟩ := h
  obtain ⟨its, rv, hl, _⟩ := I.list hs
  rw [Vals.ref1 r]
  obtain ⟨ok1, ok2, ok3, ok4⟩ := sortOk_ok ok
  have ok5 := alikeL_ok ok1
  refine PySem.W.sorted_data (vs := its) (enc := D.py) (R := StF X.K G) hl.isList (each_of rv rp) (each_reads I sm rv rp fun d m => (ok5.1 d m).1) ok2 ok3 ok4 (fun d m => ?_) fun out h1 h2 => ?_
  · have := (ok5.1 d m).2
    rw [D.dep_py]
    have := hr.units
    omega
  · obtain ⟨ep, he'⟩ := PyProof.Rows.sortedAll_at s.heap its (List.toArray out)
    obtain ⟨ys, v1, v2⟩ := of_each h2
    have hlen : ys.length ≤ sizeLine := by rw [v1.length, h1]; exact ok4
    exact ⟨.ref _, upd H (s.heap.objs.size + 1) (.lst ys), I.laid (t' := s.toks) (fun _ _ => PyProof.Rows.sortedAll_old) (Nat.le_succ _) ⟨hlen, out, ep, v1, he'⟩, rfl, q ys _ v2 (I.hok.fresh (Nat.le_succ _))⟩
def dSorted : List D → Option (List D)
  | [.lst xs] => if sortOk xs then some (sortD xs) else none
  | _ => none
theorem c_sorted {k : Nat} (hr : Room k X.A) : CallL X (.builtin "sorted") dSorted := by
  refine ⟨_, cr_sortedA hr, fun G H vs ds z Q s r q k => ?_⟩
  unfold dSorted at q
  split at q
  · split at q
    · rename_i ok
      cases q
      cases r with
      | cons r1 r2 =>
        cases r2
        cases r1 with
        | lst h l => exact ⟨G, _, _, _, rfl, SqL.of (s _ _ h), s, l, ok, fun ys p rp np => k p ys G _ (Ex.own s np) np (s.free np) upd_same rp⟩
    · cases q
  · cases q
end

/-! ### the least, the greatest -/
mutual
theorem py_inj : ∀ d e : D, d.plain = true → e.plain = true → d.py = e.py → d = e
  | .non, e, _, h, q => by cases e <;> first | rfl | (cases h; done) | (exact absurd q (by simp [D.py]))
  | .bl _, e, _, h, q => by cases e <;> first | (cases q; rfl) | (cases h; done) | (exact absurd q (by simp [D.py]))
  | .int _, e, _, h, q => by cases e <;> first | (cases q; rfl) | (cases h; done) | (exact absurd q (by simp [D.py]))
  | .str _, e, _, h, q => by cases e <;> first | (cases q; rfl) | (cases h; done) | (exact absurd q (by simp [D.py]))
  | .lst xs, e, h, h', q => by
    cases e with
    | lst ys => rw [pyL_inj xs ys h h' (PyData.list.inj q)]
    | dic _ _ => cases h'
    | _ => exact absurd q (by simp [D.py])
  | .tup xs, e, h, h', q => by
    cases e with
    | tup ys => rw [pyL_inj xs ys h h' (PyData.tuple.inj q)]
    | dic _ _ => cases h'
    | _ => exact absurd q (by simp [D.py])
  | .dic _ _, _, h, _, _ => by cases (show false = true from h)
theorem pyL_inj : ∀ xs ys : List D, D.plainL xs = true → D.plainL ys = true → D.pyL xs = D.pyL ys → xs = ys
  | [], [], _, _, _ => rfl
  | [], _ :: _, _, _, q => by cases q
  | _ :: _, [], _, _, q => by cases q
  | x :: xs, y :: ys, h, h', q => by
    have k : x.plain = true ∧ D.plainL xs = true := by simpa [D.plainL] using h
    have k' : y.plain = true ∧ D.plainL ys = true := by simpa [D.plainL] using h'
    have q' : x.py = y.py ∧ D.pyL xs = D.pyL ys := by simpa [D.pyL] using q
    rw [py_inj x y k.1 k'.1 q'.1, pyL_inj xs ys k.2 k'.2 q'.2]
end
theorem pyL_map : ∀ xs : List D, D.pyL xs = xs.map D.py
  | [] => rfl
  | x :: xs => by
    show x.py :: D.pyL xs = _
    rw [pyL_map xs]; rfl
def minDD (x : D) (xs : List D) : D := xs.foldl (fun a y => if ltD y a = true then y else a) x
def maxDD (x : D) (xs : List D) : D := xs.foldl (fun a y => if ltD a y = true then y else a) x
theorem minDD_py : ∀ (xs : List D) (x : D), PySem.W.minD x.py (xs.map D.py) = (minDD x xs).py
  | [], x => rfl
  | y :: ys, x => by
    have ih := minDD_py ys (if ltD y x = true then y else x)
    show PySem.W.minD (if PySem.W.dataLt y.py x.py = true then y.py else x.py) (ys.map D.py) = _
    have e : (if PySem.W.dataLt y.py x.py = true then y.py else x.py) = (if ltD y x = true then y else x).py := by
      show (if ltD y x = true then y.py else x.py) = _
      split <;> rfl
    rw [e, ih]; rfl
theorem maxDD_py : ∀ (xs : List D) (x : D), PySem.W.maxD x.py (xs.map D.py) = (maxDD x xs).py
  | [], x => rfl
  | y :: ys, x => by
    have ih := maxDD_py ys (if ltD x y = true then y else x)
    show PySem.W.maxD (if PySem.W.dataLt x.py y.py = true then y.py else x.py) (ys.map D.py) = _
    have e : (if PySem.W.dataLt x.py y.py = true then y.py else x.py) = (if ltD x y = true then y else x).py := by
      show (if ltD x y = true then y.py else x.py) = _
      split <;> rfl
    rw [e, ih]; rfl
theorem minDD_mem : ∀ (xs : List D) (x : D), minDD x xs ∈ x :: xs
  | [], x => List.mem_cons_self ..
  | y :: ys, x => by
    have ih := minDD_mem ys (if ltD y x = true then y else x)
    show minDD (if ltD y x = true then y else x) ys ∈ _
    rcases List.mem_cons.mp ih with h | h
    · rw [h]; split <;> simp
    · simp [h]
theorem maxDD_mem : ∀ (xs : List D) (x : D), maxDD x xs ∈ x :: xs
  | [], x => List.mem_cons_self ..
  | y :: ys, x => by
    have ih := maxDD_mem ys (if ltD x y = true then y else x)
    show maxDD (if ltD x y = true then y else x) ys ∈ _
    rcases List.mem_cons.mp ih with h | h
    · rw [h]; split <;> simp
    · simp [h]
def bestOk (ds : List D) : Bool := alikeL ds && ds.all fun d => match d with
  | .non => false
  | _ => true
theorem bestOk_ok {ds : List D} (h : bestOk ds = true) : alikeL ds = true ∧ PySem.W.AlikeAll (ds.map D.py) := by
  unfold bestOk at h
  rw [Bool.and_eq_true] at h
  refine ⟨h.1, fun d m d' m' => ?_, fun d m => ?_⟩
  · obtain ⟨a, ha, rfl⟩ := List.mem_map.mp m
    obtain ⟨b, hb, rfl⟩ := List.mem_map.mp m'
    exact (alikeL_ok h.1).2 a ha b hb
  · obtain ⟨a, ha, rfl⟩ := List.mem_map.mp m
    have k := List.all_eq_true.mp h.2 a ha
    have k2 := ((alikeL_ok h.1).1 a ha).1
    cases a with
    | non => cases k
    | dic _ _ => cases k2
    | _ => intro q; cases q
theorem RpL.plains {K : PySem.W.Frag} {H : Hp} : ∀ {ds : List D} {xs : List V}, (∀ d ∈ ds, d.plain = true) → RpL K H xs ds → DpAll K H xs (ds.map D.py)
  | [], _, _, r => by cases r; exact .nil
  | d :: ds, _, h, r => by
    cases r with
    | cons r1 r2 => exact .cons (r1.dp _ _ (h _ (List.mem_cons_self ..))) (RpL.plains (fun e m => h e (List.mem_cons_of_mem _ m)) r2)
theorem rpl_get {K : PySem.W.Frag} {H : Hp} : ∀ {xs : List V} {ds : List D} {i : Nat} {x : V}, RpL K H xs ds → xs[i]? = some x → ∃ d, ds[i]? = some d ∧ Rp K H x d
  | _, _, _, _, .nil, h => by simp at h
  | _, _, 0, _, .cons r t, h => by
    cases (show some _ = some _ from h)
    exact ⟨_, rfl, r⟩
  | _, _, i + 1, _, .cons r t, h => by
    obtain ⟨d, h1, h2⟩ := rpl_get t (by simpa using h)
    exact ⟨d, by simpa using h1, h2⟩
theorem dep_max {ds : List D} (h : ∀ d ∈ ds, d.dep ≤ 40) : PyData.depthAll (ds.map D.py) ≤ 40 := by
  rw [← pyL_map, D.depL_py]
  exact D.depL_le.mpr h
section
variable {X : Cx}
/-- min, max of what stands in a list, a tuple: one of the items itself -/
def rBest (K : PySem.W.Frag) (f : D → List D → D) : List V → Hp → VK → Prop := fun vs H Q => ∃ (G : Hp) (a : Addr) (xs : List V) (d : D) (ds : List D), vs = [V.ref a] ∧ (SqL K H a xs ∨ SqT K H a xs) ∧ Same G H ∧ RpL K G xs (d :: ds) ∧ bestOk (d :: ds) = true ∧
  ∀ v, Rp K G v (f d ds) → Q v H
theorem best_end {pins : List (Addr × Obj)} {s : Shared} {σ : L2.St} {G H : Hp} {d : D} {ds : List D} {xs : List V} {its : List Value} {z : D} (I : Inv X pins σ H s) (sm : Same G H) (rv : Vals xs its) (rp : RpL X.K G xs (d :: ds)) (pl : ∀ e ∈ d :: ds, e.plain = true) (hz : z ∈ d :: ds) {i : Nat} {v : Value} {h' : Heap} {bs : List Addr}
    (h1 : its.toArray[i]? = some v) (h2 : Reads h' v z.py bs) (hk : ∀ b o, s.heap.get? b = some o → h'.get? b = some o) : ∃ x, RelV x v ∧ Rp X.K G x z := by
  have h1' : its[i]? = some v := by simpa using h1
  have hi : i < xs.length := by
    rw [rv.length]
    exact (List.getElem?_eq_some_iff.mp h1').1
  obtain ⟨x, hx⟩ : ∃ x, xs[i]? = some x := ⟨_, List.getElem?_eq_getElem hi⟩
  obtain ⟨u, hu, ru⟩ := rv.get hx
  rw [h1'] at hu
  cases hu
  obtain ⟨e, he, re⟩ := rpl_get rp hx
  have hpe := pl e (List.mem_of_getElem? he)
  obtain ⟨as, r1⟩ := Dp.reads I _ _ _ ((re.up sm).dp _ _ hpe) ru
  have r2 := PySem.W.reads_keeps hk r1
  have e2 := PySem.SeqAt.plain_unique _ _ _ _ _ (D.py_plain e) r2 h2
  have := py_inj e z hpe (pl z hz) e2
  subst this
  exact ⟨x, ru, re⟩
theorem cr_minA {k : Nat} (hr : Room k X.A) : CallR X (.builtin "min") (rBest X.K minDD) := by
  intro pins s σ H vs us Q I r h
  obtain ⟨G, a, xs, d, ds, rfl, hs, sm, rp, ok, q⟩ := h
  obtain ⟨ok1, ok2⟩ := bestOk_ok ok
  have ok3 := alikeL_ok ok1
  have hd := dep_max fun e m => (ok3.1 e m).2
  have hun := hr.un
  rw [Vals.ref1 r]
  rcases hs with hs | hs
  · obtain ⟨its, rv, hl, _⟩ := I.list hs
    obtain ⟨as, ra⟩ := Dp.readsAll I _ _ _ (RpL.plains (fun e m => (ok3.1 e m).1) (rp.up sm)) rv
    refine PySem.W.min_list_data (x := d.py) (xs := ds.map D.py) (as := as) hr.hd hl.isList ra ok2 (by rw [List.map_cons] at hd; omega) fun i v h' tk bs h1 h2 h3 => ?_
    rw [minDD_py] at h2
    obtain ⟨x, ru, re⟩ := best_end I sm rv rp (fun e m => (ok3.1 e m).1) (minDD_mem ds d) h1 h2 h3
    exact ⟨x, H, I.kept h3, ru, q x re⟩
  · obtain ⟨its, rv, hl, _⟩ := I.tuple hs
    obtain ⟨as, ra⟩ := Dp.readsAll I _ _ _ (RpL.plains (fun e m => (ok3.1 e m).1) (rp.up sm)) rv
    refine PySem.W.min_tuple_data (x := d.py) (xs := ds.map D.py) (as := as) hr.hd (show s.heap.IsTuple a its.toArray from hl) ra ok2 (by rw [List.map_cons] at hd; omega) fun i v h' tk bs h1 h2 h3 => ?_
    rw [minDD_py] at h2
    obtain ⟨x, ru, re⟩ := best_end I sm rv rp (fun e m => (ok3.1 e m).1) (minDD_mem ds d) h1 h2 h3
    exact ⟨x, H, I.kept h3, ru, q x re⟩
theorem cr_maxA {k : Nat} (hr : Room k X.A) : CallR X (.builtin "max") (rBest X.K maxDD) := by
  intro pins s σ H vs us Q I r h
  obtain ⟨G, a, xs, d, ds, rfl, hs, sm, rp, ok, q⟩ := h
  obtain ⟨ok1, ok2⟩ := bestOk_ok ok
  have ok3 := alikeL_ok ok1
  have hd := dep_max fun e m => (ok3.1 e m).2
  have hun := hr.un
  rw [Vals.ref1 r]
  rcases hs with hs | hs
  · obtain ⟨its, rv, hl, _⟩ := I.list hs
    obtain ⟨as, ra⟩ := Dp.readsAll I _ _ _ (RpL.plains (fun e m => (ok3.1 e m).1) (rp.up sm)) rv
    refine PySem.W.max_list_data (x := d.py) (xs := ds.map D.py) (as := as) hr.hd hl.isList ra ok2 (by rw [List.map_cons] at hd; omega) fun i v h' tk bs h1 h2 h3 => ?_
    rw [maxDD_py] at h2
    obtain ⟨x, ru, re⟩ := best_end I sm rv rp (fun e m => (ok3.1 e m).1) (maxDD_mem ds d) h1 h2 h3
    exact ⟨x, H, I.kept h3, ru, q x re⟩
  · obtain ⟨its, rv, hl, _⟩ := I.tuple hs
    obtain ⟨as, ra⟩ := Dp.readsAll I _ _ _ (RpL.plains (fun e m => (ok3.1 e m).1) (rp.up sm)) rv
    refine PySem.W.max_tuple_data (x := d.py) (xs := ds.map D.py) (as := as) hr.hd (show s.heap.IsTuple a its.toArray from hl) ra ok2 (by rw [List.map_cons] at hd; omega) fun i v h' tk bs h1 h2 h3 => ?_
    rw [maxDD_py] at h2
    obtain ⟨x, ru, re⟩ := best_end I sm rv rp (fun e m => (ok3.1 e m).1) (maxDD_mem ds d) h1 h2 h3
    exact ⟨x, H, I.kept h3, ru, q x re⟩
def dMinA : List D → Option D
  | [.lst (x :: xs)] => if bestOk (x :: xs) then some (minDD x xs) else none
  | [.tup (x :: xs)] => if bestOk (x :: xs) then some (minDD x xs) else none
  | [.int i, .int j] => some (.int (min i j))
  | _ => none
def dMaxA : List D → Option D
  | [.lst (x :: xs)] => if bestOk (x :: xs) then some (maxDD x xs) else none
  | [.tup (x :: xs)] => if bestOk (x :: xs) then some (maxDD x xs) else none
  | [.int i, .int j] => some (.int (max i j))
  | _ => none
/-- of frozen things: the answer is one of them -/
theorem c_minA {k : Nat} (hc : X.calm = true) (hr : Room k X.A) : CallF X (.builtin "min") dMinA := by
  refine ⟨_, (cr_minA hr).or (call_min2 hc), fun G H vs ds z Q s r q k => ?_⟩
  unfold dMinA at q
  split at q
  · split at q
    · rename_i x xs ok
      cases q
      cases r with
      | cons r1 r2 =>
        cases r2
        cases r1 with
        | lst h l => exact .inl ⟨G, _, _, x, xs, rfl, .inl (SqL.of (s _ _ h)), s, l, ok, fun v rv => k _ _ _ (Ex.refl s) rv⟩
    · cases q
  · split at q
    · rename_i x xs ok
      cases q
      cases r with
      | cons r1 r2 =>
        cases r2
        cases r1 with
        | tup h l => exact .inl ⟨G, _, _, x, xs, rfl, .inr (SqT.of (s _ _ h)), s, l, ok, fun v rv => k _ _ _ (Ex.refl s) rv⟩
    · cases q
  · cases q
    cases r with
    | cons r1 r2 =>
      cases r2 with
      | cons r2 r3 =>
        cases r3; cases r1; cases r2
        rename_i i j
        refine .inr ⟨i, j, rfl, ?_⟩
        have : (if j < i then j else i) = min i j := by split <;> omega
        rw [this]
        exact k _ _ _ (Ex.refl s) (.int _)
  · cases q
theorem c_maxA {k : Nat} (hc : X.calm = true) (hr : Room k X.A) : CallF X (.builtin "max") dMaxA := by
  refine ⟨_, (cr_maxA hr).or (call_max2 hc), fun G H vs ds z Q s r q k => ?_⟩
  unfold dMaxA at q
  split at q
  · split at q
    · rename_i x xs ok
      cases q
      cases r with
      | cons r1 r2 =>
        cases r2
        cases r1 with
        | lst h l => exact .inl ⟨G, _, _, x, xs, rfl, .inl (SqL.of (s _ _ h)), s, l, ok, fun v rv => k _ _ _ (Ex.refl s) rv⟩
    · cases q
  · split at q
    · rename_i x xs ok
      cases q
      cases r with
      | cons r1 r2 =>
        cases r2
        cases r1 with
        | tup h l => exact .inl ⟨G, _, _, x, xs, rfl, .inr (SqT.of (s _ _ h)), s, l, ok, fun v rv => k _ _ _ (Ex.refl s) rv⟩
    · cases q
  · cases q
    cases r with
    | cons r1 r2 =>
      cases r2 with
      | cons r2 r3 =>
        cases r3; cases r1; cases r2
        rename_i i j
        refine .inr ⟨i, j, rfl, ?_⟩
        have : (if j > i then j else i) = max i j := by split <;> omega
        rw [this]
        exact k _ _ _ (Ex.refl s) (.int _)
  · cases q
/-! a list of range(n), a call of a built-in that makes a list, with draws within -/
theorem v_callBF {x : Str} {p pos : Pos} {id : String} {e : Expr} {es : List Expr} {fs : VL.Env → Option (List D)} {g : List D → Option D} (hc : CallF X (.builtin id) g) (hg : Gl X x) (hm : X.mg x = none) (hv : bootBuiltins x = some (.builtin id)) (ha : AV X (e :: es) fs) (hn : x ≠ "__name__" := by decide) (hdb : (x == ("__debug__" : Str)) = false := by decide)
    (he : starEach (e :: es) X.env = (false, eval e X.env) :: starEach es X.env := by rfl) (hpl : (backTo pos (starEach es X.env)).any (·.1) = false := by rfl) : PV X (.Call (.Name x p) (e :: es) [] pos) (cB fs g) := by
  obtain ⟨r, hr, o⟩ := hc
  obtain ⟨t, pa, oa⟩ := ha.ex
  refine ⟨_, pe_callB hr hg hm hv pa hn hdb he hpl, fun G H st env F Q d re e k => ?_⟩
  obtain ⟨ds, e1, e2⟩ := Option.bind_eq_some_iff.mp e
  exact oa G H st env F _ _ re e1 fun vs G1 H1 x1 r1 => o G1 H1 vs ds d Q x1.gh r1 e2 fun v G' H' x2 r2 => k v G' H' (x1.trans x2) r2
theorem m_callBF {x : Str} {p pos : Pos} {id : String} {e : Expr} {es : List Expr} {fs : Mo (List D)} {g : List D → Option D} (hc : CallF X (.builtin id) g) (hg : Gl X x) (hm : X.mg x = none) (hv : bootBuiltins x = some (.builtin id)) (ha : MA X (e :: es) fs) (hn : x ≠ "__name__" := by decide) (hdb : (x == ("__debug__" : Str)) = false := by decide)
    (he : starEach (e :: es) X.env = (false, eval e X.env) :: starEach es X.env := by rfl) (hpl : (backTo pos (starEach es X.env)).any (·.1) = false := by rfl) : MV X (.Call (.Name x p) (e :: es) [] pos) (mB fs g) := by
  obtain ⟨r, hr, o⟩ := hc
  obtain ⟨t, pa, oa⟩ := ha.ex
  refine ⟨_, pe_callB hr hg hm hv pa hn hdb he hpl, fun c G H st env F Q d env' r q e k => ?_⟩
  obtain ⟨ds, e1, e2⟩ := mB_some e
  exact oa c G H st env F _ _ env' r q e1 fun vs G1 H1 F1 r1 q1 s1 rv => o G1 H1 vs ds d Q r1.sub rv e2 fun v G' H' x2 r2 => k v G' H' F1 (r1.ext x2) (q1.ext x2) (s1.trans x2.gg) r2
end
end VL

set_option Elab.async false
set_option linter.all false
set_option maxRecDepth 100000
/-! VL18: list(range(n)). -/
namespace VL
open PySem PySem.Spec PyProof.Rows L2
section
variable {X : Cx} {a : Expr} {fa : VL.Env → Option D} {p p2 pos pos2 : Pos}
def rgL : D → Option (List D)
  | .int n => if n.natAbs ≤ 16777216 then some (rangeD 0 n.toNat) else none
  | _ => none
theorem rgV_map (n : Int) : rgV 0 n = ((List.range n.toNat).map fun (i : Nat) => ((i : Int))).map V.int := by
  unfold rgV
  rw [List.map_map]
  rw [show (n - 0).toNat = n.toNat by omega]
  refine List.map_congr_left fun i _ => ?_
  show V.int (0 + (i : Int)) = V.int (i : Int)
  rw [Int.zero_add]
theorem rangeD_ints (n : Nat) : rangeD 0 n = ((List.range n).map fun (i : Nat) => ((i : Int))).map D.int := by
  rw [rangeD_0, List.map_map]; rfl
theorem l_rg1 (hc : X.calm = true) (hg2 : Gl X "list") (hm2 : X.mg "list" = none) (hg : Gl X "range") (hm : X.mg "range" = none) (ha : PW X a fa) (na : starEach [a] X.env = (false, eval a X.env) :: starEach [] X.env := by rfl)
    (na2 : starEach [Expr.Call (.Name "range" p2) [a] [] pos2] X.env = (false, eval (.Call (.Name "range" p2) [a] [] pos2) X.env) :: starEach [] X.env := by rfl) : PL X (.Call (.Name "list" p) [.Call (.Name "range" p2) [a] [] pos2] [] pos) (fun env => (fa env).bind rgL) := by
  obtain ⟨t, pa, oa⟩ := ha.ex
  refine ⟨_, pe_listRg hc hg2 hm2 (prg_1 hg hm pa na) na2, fun G H st env F Q ds re e k => ?_⟩
  obtain ⟨d, e1, e2⟩ := Option.bind_eq_some_iff.mp e
  refine oa G H st env F _ _ re e1 fun v G1 H1 x1 r1 => ?_
  cases d with
  | int n =>
    have e2 : (if n.natAbs ≤ 16777216 then some (rangeD 0 n.toNat) else none) = some ds := e2
    split at e2
    · rename_i hn
      cases e2
      cases r1
      refine ⟨n, rfl, ⟨by omega, by omega, by omega, by omega, by omega⟩, fun q hq => ?_⟩
      refine k q (rgV 0 n) G1 _ (x1.trans (Ex.own x1.gh hq)) (x1.hh.free hq) (x1.gh.free hq) upd_same ?_
      rw [rgV_map, rangeD_ints]
      exact RpL.of_ints _
    · cases e2
  | _ => cases e2
end

@[simp] abbrev dRgL (f : VL.Env → Option D) : VL.Env → Option (List D) := fun env => (f env).bind rgL
theorem look_free {env : PySem.Env} : ∀ {names : List (Str × NameKind)} {x : Str}, names.lookup x = some .cell ∨ names.lookup x = some .free →
    (names.map fun (n, k) => if (k == NameKind.free && env.scope.kind == .function && env.kindOf n == some .cell) then (n, NameKind.cell) else (n, k)).lookup x = some .cell ∨
    (names.map fun (n, k) => if (k == NameKind.free && env.scope.kind == .function && env.kindOf n == some .cell) then (n, NameKind.cell) else (n, k)).lookup x = some .free
  | [], x, h => by rcases h with h | h <;> cases h
  | (n, k) :: r, x, h => by
    have ih := @look_free env r x
    rw [List.map_cons]
    by_cases c : (x == n) = true
    · have e : ∀ k', List.lookup x ((n, k') :: r) = some k' := fun k' => by simp [List.lookup, c]
      rw [e k] at h
      have hk : k = .cell ∨ k = .free := by rcases h with h | h <;> cases h <;> simp
      rcases hk with rfl | rfl
      · refine .inl ?_
        show List.lookup x ((n, NameKind.cell) :: _) = _
        simp [List.lookup, c]
      · show List.lookup x ((if _ then (n, NameKind.cell) else (n, NameKind.free)) :: _) = _ ∨ List.lookup x ((if _ then (n, NameKind.cell) else (n, NameKind.free)) :: _) = _
        split
        · exact .inl (by simp [List.lookup, c])
        · exact .inr (by simp [List.lookup, c])
    · have c' : (x == n) = false := by simpa using c
      have e : ∀ k' (l : List (Str × NameKind)), List.lookup x ((n, k') :: l) = List.lookup x l := fun k' l => by simp [List.lookup, c']
      rw [e] at h
      have h' := ih h
      dsimp only
      split
      · rw [e]; exact h'
      · rw [e]; exact h'
theorem blkN {N : List Str} {scope0 scope : Scope} {own : List (Str × Nat)} {cl : List (Str × Addr)} {C : Addr} {env : PySem.Env} (h : BlkOk N scope0 scope own) : BlkOk N (compEnvC scope0 cl C env).scope scope own :=
  ⟨h.kind, h.uniq, h.ix, fun y m e => look_free (h.free y m e), h.own⟩
end VL

set_option Elab.async false
set_option linter.all false
set_option maxRecDepth 100000
/-! VL19: the order of data, typed; enumerate; cuts. -/
namespace VL
open PySem PySem.Spec PyProof.Rows L2
open Enc (enc)
theorem ltD_irrefl (d : D) : ltD d d = false := (PyProof.Rows.listOrd PyProof.Rows.itemOrd).irrefl _
theorem ltD_trans {a b c : D} (h : ltD a b = true) (k : ltD b c = true) : ltD a c = true := (PyProof.Rows.listOrd PyProof.Rows.itemOrd).trans _ _ _ h k
theorem ltD_neg {a c : D} (b : D) (h : ltD a c = true) : ltD a b = true ∨ ltD b c = true := (PyProof.Rows.listOrd PyProof.Rows.itemOrd).negTrans _ _ _ h
theorem ltD_asymm {a b : D} (h : ltD a b = true) : ltD b a = false := by
  cases k : ltD b a
  · rfl
  · have := ltD_trans h k
    rw [ltD_irrefl] at this; cases this
theorem leD_tot : PySem.W.TotalLe leD := PySem.W.sortLe_total (PyProof.Rows.listOrd PyProof.Rows.itemOrd) false _
theorem maxDD_ge : ∀ (xs : List D) (x : D), ltD (maxDD x xs) x = false ∧ ∀ y ∈ xs, ltD (maxDD x xs) y = false
  | [], x => ⟨ltD_irrefl x, fun y h => by cases h⟩
  | z :: xs, x => by
    obtain ⟨h1, h2⟩ := maxDD_ge xs (if ltD x z = true then z else x)
    have hx : ltD (maxDD (if ltD x z = true then z else x) xs) x = false := by
      by_cases c : ltD x z = true
      · rw [if_pos c] at h1 ⊢
        cases k : ltD (maxDD z xs) x
        · rfl
        · rw [ltD_trans k c] at h1; cases h1
      · rw [if_neg c] at h1 ⊢
        exact h1
    have hz : ltD (maxDD (if ltD x z = true then z else x) xs) z = false := by
      by_cases c : ltD x z = true
      · rw [if_pos c] at h1 ⊢
        exact h1
      · rw [if_neg c] at h1 ⊢
        cases k : ltD (maxDD x xs) z
        · rfl
        · rcases ltD_neg x k with q | q
          · rw [q] at h1; cases h1
          · exact absurd q c
    refine ⟨hx, fun y h => ?_⟩
    rcases List.mem_cons.mp h with rfl | h
    · exact hz
    · exact h2 y h
theorem minDD_le : ∀ (xs : List D) (x : D), ltD x (minDD x xs) = false ∧ ∀ y ∈ xs, ltD y (minDD x xs) = false
  | [], x => ⟨ltD_irrefl x, fun y h => by cases h⟩
  | z :: xs, x => by
    obtain ⟨h1, h2⟩ := minDD_le xs (if ltD z x = true then z else x)
    have hx : ltD x (minDD (if ltD z x = true then z else x) xs) = false := by
      by_cases c : ltD z x = true
      · rw [if_pos c] at h1 ⊢
        cases k : ltD x (minDD z xs)
        · rfl
        · rw [ltD_trans c k] at h1; cases h1
      · rw [if_neg c] at h1 ⊢
        exact h1
    have hz : ltD z (minDD (if ltD z x = true then z else x) xs) = false := by
      by_cases c : ltD z x = true
      · rw [if_pos c] at h1 ⊢
        exact h1
      · rw [if_neg c] at h1 ⊢
        cases k : ltD z (minDD x xs)
        · rfl
        · rcases ltD_neg x k with q | q
          · exact absurd q c
          · rw [q] at h1; cases h1
    refine ⟨hx, fun y h => ?_⟩
    rcases List.mem_cons.mp h with rfl | h
    · exact hz
    · exact h2 y h
/-- typed data with an order -/
class EncO (α : Type) extends Enc α where
  lt : α → α → Bool
  ltOk : ∀ a b, ltD (enc a) (enc b) = lt a b
  al : ∀ a b, PySem.W.alike (enc a).py (enc b).py = true
  ks : (∀ a, (enc a).key = true) ∨ (∀ a, (enc a).noKey = true)
  nn : ∀ a, enc a ≠ .non
theorem ltD_int (a b : Int) : ltD (.int a) (.int b) = decide (a < b) := PySem.W.dataLt_int a b
instance : EncO Int where
  lt a b := decide (a < b)
  ltOk a b := ltD_int a b
  al a b := by show PySem.W.alike (.int a) (.int b) = true; simp [PySem.W.alike]
  ks := .inr fun _ => rfl
  nn a h := by cases h
instance : EncO Nat where
  lt a b := decide (a < b)
  ltOk a b := by
    show ltD (.int (a : Int)) (.int (b : Int)) = _
    rw [ltD_int]
    congr 1
    simp
  al a b := by show PySem.W.alike (.int (a : Int)) (.int (b : Int)) = true; simp [PySem.W.alike]
  ks := .inr fun _ => rfl
  nn a h := by cases h
theorem alike_py {α : Type} [EncO α] (a b : α) : PySem.W.alike (enc a).py (enc b).py = true := EncO.al a b
theorem eqv_enc {α : Type} [Enc α] [DecidableEq α] (a b : α) : PyData.eqv (enc a).py (enc b).py = decide (a = b) := by
  rw [Bool.eq_iff_iff, decide_eq_true_eq]
  exact ⟨fun h => Enc.inj ((eqD_iff (Enc.nb a) (Enc.nb b)).mp h), fun h => by rw [h]; exact eqD_self (Enc.nb b)⟩
instance {α β : Type} [EncO α] [EncO β] [DecidableEq α] [DecidableEq β] : EncO (α × β) where
  lt p q := if p.1 = q.1 then EncO.lt p.2 q.2 else EncO.lt p.1 q.1
  ltOk p q := by
    show PySem.W.dataLt (.tuple [(enc p.1).py, (enc p.2).py]) (.tuple [(enc q.1).py, (enc q.2).py]) = _
    rw [PySem.W.dataLt_pair (EncO.al p.1 q.1) (EncO.al p.2 q.2), eqv_enc, eqv_enc]
    by_cases c : p.1 = q.1
    · rw [if_pos (decide_eq_true c), if_pos c]
      by_cases c' : p.2 = q.2
      · rw [if_pos (decide_eq_true c'), c', ← EncO.ltOk]
        exact (ltD_irrefl _).symm
      · rw [if_neg (by simpa using c')]
        exact EncO.ltOk _ _
    · rw [if_neg (by simpa using c), if_neg c]
      exact EncO.ltOk _ _
  al p q := by
    show PySem.W.alike (.tuple [(enc p.1).py, (enc p.2).py]) (.tuple [(enc q.1).py, (enc q.2).py]) = true
    rw [PySem.W.alike, PySem.W.alikeAll, PySem.W.alikeAll, EncO.al, EncO.al]
    simp [PySem.W.alikeAll]
  ks := .inl fun _ => rfl
  nn p h := by cases h
section
variable {α : Type} [EncO α]
def leE (a b : α) : Bool := !EncO.lt b a
theorem leE_eq (a b : α) : leD (enc a) (enc b) = leE a b := by
  rw [leD_eq, EncO.ltOk]; rfl
theorem leE_trans (a b c : α) (h : leE a b = true) (k : leE b c = true) : leE a c = true := by
  rw [← leE_eq] at h k ⊢
  exact leD_tot.trans _ _ _ h k
theorem leE_total (a b : α) : leE a b = true ∨ leE b a = true := by
  rw [← leE_eq, ← leE_eq]
  exact leD_tot.total _ _
def sortE (xs : List α) : List α := xs.mergeSort leE
theorem alikeL_enc (xs : List α) (h : Enc.n α ≤ 40) : alikeL (xs.map enc) = true := by
  unfold alikeL
  rw [List.all_eq_true]
  intro d m
  obtain ⟨a, _, rfl⟩ := List.mem_map.mp m
  simp only [Bool.and_eq_true, decide_eq_true_eq]
  refine ⟨⟨D.nb_plain _ (Enc.nb a), Nat.le_trans (Enc.dp a) h⟩, ?_⟩
  rw [List.all_eq_true]
  intro e m'
  obtain ⟨b, _, rfl⟩ := List.mem_map.mp m'
  exact EncO.al a b
theorem sortOk_enc (xs : List α) (h : Enc.n α ≤ 40) (hl : xs.length ≤ sizeLine) : sortOk (xs.map enc) = true := by
  unfold sortOk
  rw [alikeL_enc xs h, List.length_map, Bool.true_and, Bool.and_eq_true, Bool.or_eq_true]
  refine ⟨?_, decide_eq_true hl⟩
  rcases (EncO.ks : (∀ a : α, (enc a).key = true) ∨ (∀ a : α, (enc a).noKey = true)) with k | k
  · refine .inl (List.all_eq_true.mpr fun d m => ?_)
    obtain ⟨a, _, rfl⟩ := List.mem_map.mp m
    exact k a
  · refine .inr (List.all_eq_true.mpr fun d m => ?_)
    obtain ⟨a, _, rfl⟩ := List.mem_map.mp m
    exact k a
theorem sortD_enc (xs : List α) : sortD (xs.map enc) = (sortE xs).map enc := by
  unfold sortD sortE
  rw [List.map_mergeSort (s := leD)]
  intro a _ b _
  exact (leE_eq a b).symm
theorem dSorted_enc (xs : List α) (h : Enc.n α ≤ 40) (hl : xs.length ≤ sizeLine) : dSorted [.lst (xs.map enc)] = some ((sortE xs).map enc) := by
  show (if _ then _ else _) = _
  rw [if_pos (sortOk_enc xs h hl), sortD_enc]
theorem sortE_perm (xs : List α) : (sortE xs).Perm xs := List.mergeSort_perm _ _
theorem sortE_sorted (xs : List α) : (sortE xs).Pairwise fun a b => leE a b = true := List.pairwise_mergeSort leE_trans (fun a b => by rw [Bool.or_eq_true]; exact leE_total a b) xs
theorem bestOk_enc (xs : List α) (h : Enc.n α ≤ 40) : bestOk (xs.map enc) = true := by
  unfold bestOk
  rw [alikeL_enc xs h, Bool.true_and, List.all_eq_true]
  intro d m
  obtain ⟨a, _, rfl⟩ := List.mem_map.mp m
  have := EncO.nn a
  split
  · rename_i e; exact absurd e this
  · rfl
/-- min, max of typed data -/
theorem dMin_enc {x : α} {xs : List α} (h : Enc.n α ≤ 40) : ∃ m, m ∈ x :: xs ∧ (∀ y ∈ x :: xs, leE m y = true) ∧ dMinA [.lst ((x :: xs).map enc)] = some (enc m) := by
  have e : dMinA [.lst ((x :: xs).map enc)] = some (minDD (enc x) (xs.map enc)) := if_pos (bestOk_enc (x :: xs) h)
  have hm := minDD_mem (xs.map enc) (enc x)
  obtain ⟨m, m1, m2⟩ := List.mem_map.mp (show minDD (enc x) (xs.map enc) ∈ (x :: xs).map enc from hm)
  obtain ⟨k1, k2⟩ := minDD_le (xs.map enc) (enc x)
  rw [← m2] at k1 k2 e
  refine ⟨m, m1, fun y hy => ?_, e⟩
  rw [← leE_eq, leD_eq]
  rcases List.mem_cons.mp hy with rfl | hy
  · rw [k1]; rfl
  · rw [k2 _ (List.mem_map.mpr ⟨y, hy, rfl⟩)]; rfl
theorem dMax_enc {x : α} {xs : List α} (h : Enc.n α ≤ 40) : ∃ m, m ∈ x :: xs ∧ (∀ y ∈ x :: xs, leE y m = true) ∧ dMaxA [.lst ((x :: xs).map enc)] = some (enc m) := by
  have e : dMaxA [.lst ((x :: xs).map enc)] = some (maxDD (enc x) (xs.map enc)) := if_pos (bestOk_enc (x :: xs) h)
  have hm := maxDD_mem (xs.map enc) (enc x)
  obtain ⟨m, m1, m2⟩ := List.mem_map.mp (show maxDD (enc x) (xs.map enc) ∈ (x :: xs).map enc from hm)
  obtain ⟨k1, k2⟩ := maxDD_ge (xs.map enc) (enc x)
  rw [← m2] at k1 k2 e
  refine ⟨m, m1, fun y hy => ?_, e⟩
  rw [← leE_eq, leD_eq]
  rcases List.mem_cons.mp hy with rfl | hy
  · rw [k1]; rfl
  · rw [k2 _ (List.mem_map.mpr ⟨y, hy, rfl⟩)]; rfl
end
theorem leE_int (a b : Int) : leE a b = true ↔ a ≤ b := by
  show (!decide (b < a)) = true ↔ _
  simp
theorem leE_nat (a b : Nat) : leE a b = true ↔ a ≤ b := by
  show (!decide (b < a)) = true ↔ _
  simp
/-- max, min of ints -/
theorem dMax_ints {ns : List Int} (h : ns ≠ []) : dMaxA [.lst (ns.map D.int)] = some (.int (maxI ns)) := by
  cases ns with
  | nil => exact absurd rfl h
  | cons x xs =>
    obtain ⟨m, h1, h2, h3⟩ := dMax_enc (α := Int) (x := x) (xs := xs) (by decide)
    have : m = maxI (x :: xs) := Int.le_antisymm (maxI_ge h1) ((leE_int _ _).mp (h2 _ (maxI_mem (by simp))))
    subst this
    exact h3
theorem dMin_ints {ns : List Int} (h : ns ≠ []) : dMinA [.lst (ns.map D.int)] = some (.int (minI ns)) := by
  cases ns with
  | nil => exact absurd rfl h
  | cons x xs =>
    obtain ⟨m, h1, h2, h3⟩ := dMin_enc (α := Int) (x := x) (xs := xs) (by decide)
    have : m = minI (x :: xs) := Int.le_antisymm ((leE_int _ _).mp (h2 _ (minI_mem (by simp)))) (minI_le h1)
    subst this
    exact h3
@[simp] theorem dMax_2 (i j : Int) : dMaxA [.int i, .int j] = some (.int (max i j)) := rfl
@[simp] theorem dMin_2 (i j : Int) : dMinA [.int i, .int j] = some (.int (min i j)) := rfl
/-! ### enumerate, cuts -/
theorem enumD_enc {α : Type} [Enc α] (xs : List α) : enumD (xs.map enc) = xs.zipIdx.map fun p => D.tup [.int (p.2 : Int), enc p.1] := by
  unfold enumD
  rw [List.mapIdx_eq_zipIdx_map, List.zipIdx_map, List.map_map]
  rfl
theorem cutD_to {α : Type} (xs : List α) (j : Nat) : cutD xs none (some (j : Int)) = xs.take j := by
  have h : ¬ ((j : Int) < 0) := by omega
  unfold cutD HT.sIx
  simp only [if_neg h, List.drop_zero, Int.toNat_natCast, Nat.sub_zero]
  rw [List.take_eq_take_iff]
  omega
theorem cutD_from {α : Type} (xs : List α) (j : Nat) : cutD xs (some (j : Int)) none = xs.drop j := by
  have h : ¬ ((j : Int) < 0) := by omega
  unfold cutD HT.sIx
  simp only [if_neg h, Int.toNat_natCast]
  rw [List.take_of_length_le (by rw [List.length_drop]; omega)]
  by_cases c : j ≤ xs.length
  · rw [Nat.min_eq_left c]
  · rw [Nat.min_eq_right (by omega), List.drop_length, List.drop_of_length_le (by omega)]
end VL

set_option Elab.async false
set_option linter.all false
set_option maxRecDepth 100000
/-! VL20: loops item by item; some typed data. -/
namespace VL
open PySem PySem.Spec PyProof.Rows L2
open Enc (enc)
theorem wp_cons {ft : D → VL.Env → Option VL.Env} {fb : VL.Env → Option Out} {d : D} {ds : List D} {env e1 : VL.Env} {Q : Out → Prop} (h : ft d env = some e1) (q : wp (fb e1) fun o => match o with
  | .nx e2 => wp (forD ft fb ds e2) Q
  | .ct e2 => wp (forD ft fb ds e2) Q
  | .bk e2 => Q (.nx e2)
  | .rt s e2 => Q (.rt s e2)) : wp (forD ft fb (d :: ds) env) Q := by
  obtain ⟨u, h2, h3⟩ := q
  show wp ((ft d env).bind _) Q
  rw [h]
  show wp ((fb e1).bind _) Q
  rw [h2]
  cases u with
  | nx e2 => exact h3
  | ct e2 => exact h3
  | bk e2 => exact ⟨_, rfl, h3⟩
  | rt s e2 => exact ⟨_, rfl, h3⟩
theorem wp_end {ft : D → VL.Env → Option VL.Env} {fb : VL.Env → Option Out} {env : VL.Env} {Q : Out → Prop} (q : Q (.nx env)) : wp (forD ft fb [] env) Q := ⟨_, rfl, q⟩
/-- for x in xs, typed: one invariant for what is done -/
theorem wp_each {α : Type} {ft : D → VL.Env → Option VL.Env} {fb : VL.Env → Option Out} {en : α → D} {Q : Out → Prop} (I : List α → VL.Env → Prop) : ∀ {xs done : List α} {env : VL.Env}, I done env →
    (∀ (pre : List α) (x : α) (post : List α) (e : VL.Env), done ++ xs = pre ++ x :: post → I pre e → ∃ e1, ft (en x) e = some e1 ∧ wp (fb e1) fun o => match o with
      | .nx e2 => I (pre ++ [x]) e2
      | .ct e2 => I (pre ++ [x]) e2
      | .bk e2 => Q (.nx e2)
      | .rt s e2 => Q (.rt s e2)) → (∀ e, I (done ++ xs) e → Q (.nx e)) → wp (forD ft fb (xs.map en) env) Q
  | [], done, env, h0, _, he => wp_end (he env (by rwa [List.append_nil]))
  | x :: xs, done, env, h0, hs, he => by
    obtain ⟨e1, h1, u, h2, h3⟩ := hs done x xs env rfl h0
    have hs' : ∀ (pre : List α) (y : α) (post : List α) (e : VL.Env), (done ++ [x]) ++ xs = pre ++ y :: post → I pre e → ∃ e1, ft (en y) e = some e1 ∧ wp (fb e1) fun o => match o with
      | .nx e2 => I (pre ++ [y]) e2
      | .ct e2 => I (pre ++ [y]) e2
      | .bk e2 => Q (.nx e2)
      | .rt s e2 => Q (.rt s e2) := fun pre y post e h i => hs pre y post e (by rw [← h, List.append_assoc]; rfl) i
    have he' : ∀ e, I ((done ++ [x]) ++ xs) e → Q (.nx e) := fun e i => he e (by rw [List.append_assoc] at i; exact i)
    refine wp_cons h1 ⟨u, h2, ?_⟩
    cases u with
    | nx e2 => exact wp_each I h3 hs' he'
    | ct e2 => exact wp_each I h3 hs' he'
    | bk e2 => exact h3
    | rt s e2 => exact h3
theorem dMin_tup2 (a b : Int) : dMinA [.tup [.int a, .int b]] = some (.int (min a b)) := by
  have hb : bestOk [.int a, .int b] = true := bestOk_enc (α := Int) [a, b] (by decide)
  have e : dMinA [.tup [.int a, .int b]] = some (minDD (.int a) [.int b]) := by
    show (if bestOk [.int a, .int b] = true then some (minDD (.int a) [.int b]) else none) = _
    rw [if_pos hb]
  rw [e]
  show some (if ltD (.int b) (.int a) = true then D.int b else .int a) = _
  rw [ltD_int]
  by_cases c : b < a
  · rw [if_pos (decide_eq_true c), Int.min_eq_right (by omega)]
  · rw [if_neg (by simpa using c), Int.min_eq_left (by omega)]
/-- three numbers -/
structure I3 where
  x : Int
  y : Int
  z : Int
instance : Enc I3 where
  enc p := .tup [.int p.x, .int p.y, .int p.z]
  nb _ := rfl
  inj {a b} h := by
    cases a; cases b
    simp only [D.tup.injEq, List.cons.injEq, D.int.injEq, and_true] at h
    obtain ⟨rfl, rfl, rfl⟩ := h
    rfl
  n := 1
  dp _ := Nat.le_refl _
instance : EncO I3 where
  lt a b := ltD (enc a) (enc b)
  ltOk _ _ := rfl
  al a b := by
    show PySem.W.alike (.tuple [.int a.x, .int a.y, .int a.z]) (.tuple [.int b.x, .int b.y, .int b.z]) = true
    simp [PySem.W.alike, PySem.W.alikeAll]
  ks := .inl fun _ => rfl
  nn a h := by cases h
theorem lt_I3 {a b : I3} (h : a.x < b.x) : (EncO.lt a b : Bool) = true := by
  show PySem.W.dataLt (.tuple [.int a.x, .int a.y, .int a.z]) (.tuple [.int b.x, .int b.y, .int b.z]) = true
  show PyProof.Rows.lexLt PyProof.Rows.itemOrd (PySem.W.keyToksAll _) (PySem.W.keyToksAll _) = true
  rw [PySem.W.dataLt_cons (by simp [PySem.W.alike])]
  have : PyData.eqv (.int a.x) (.int b.x) = false := by simp [PyData.eqv]; omega
  rw [this, if_neg (by decide), PySem.W.dataLt_int]
  exact decide_eq_true h
theorem leE_I3 {a b : I3} (h : leE a b = true) : a.x ≤ b.x := by
  rcases (by omega : b.x < a.x ∨ a.x ≤ b.x) with c | c
  · have := lt_I3 c
    unfold leE at h
    rw [this] at h; cases h
  · exact c
@[simp] theorem truD_lst (xs : List D) : truD (.lst xs) = some (!xs.isEmpty) := by cases xs <;> rfl
/-- a number or none -/
def oZ : Option Int → D
  | none => .non
  | some v => .int v
theorem atI_map {α : Type} [Enc α] {xs : List α} {k : Nat} {x : α} (h : xs[k]? = some x) : atI (xs.map enc) (k : Int) = some (enc x) := by
  rw [atI_nat, List.getElem?_map, h]; rfl
end VL

set_option Elab.async false
set_option linter.all false
set_option maxRecDepth 100000
/-! VL21: comprehensions that draw. -/
namespace VL
open PySem PySem.Spec PyProof.Rows L2
open Enc (enc)
theorem compM_ok {β : Type} {vs : List Nat} {ft : D → VL.Env → Option VL.Env} {fc : Mo Bool} {fe : Mo D} {en : β → D} (I : List β → VL.Env → Prop) : ∀ (xs : List D) (acc : List β) (e : VL.Env), I acc e →
    (∀ acc' d e, d ∈ xs → acc'.length < acc.length + xs.length → I acc' e → ∃ e1, ft d e = some e1 ∧ wm (fc e1) fun b e2 => if b = true then wm (fe e2) fun y e3 => ∃ z : β, y = en z ∧ I (acc' ++ [z]) (wipeE e3 vs) else I acc' (wipeE e2 vs)) →
    ∃ zs e', compM vs ft fc fe xs e = some (zs.map en, e') ∧ I (acc ++ zs) e' ∧ zs.length ≤ xs.length
  | [], acc, e, h, _ => ⟨[], e, rfl, by rwa [List.append_nil], Nat.le_refl _⟩
  | d :: ds, acc, e, h, hs => by
    obtain ⟨e1, h1, b, e2, h2, h3⟩ := hs acc d e (List.mem_cons_self ..) (by simp) h
    have hs' : ∀ (acc1 : List β), acc1.length ≤ acc.length + 1 → ∀ acc' d' e, d' ∈ ds → acc'.length < acc1.length + ds.length → I acc' e → ∃ e1, ft d' e = some e1 ∧ wm (fc e1) fun b e2 => if b = true then wm (fe e2) fun y e3 => ∃ z : β, y = en z ∧ I (acc' ++ [z]) (wipeE e3 vs) else I acc' (wipeE e2 vs) :=
      fun acc1 hl acc' d' e m l i => hs acc' d' e (List.mem_cons_of_mem _ m) (by rw [List.length_cons]; omega) i
    cases b with
    | false =>
      have h3 : I acc (wipeE e2 vs) := h3
      obtain ⟨zs, e', k1, k2, k3⟩ := compM_ok I ds acc (wipeE e2 vs) h3 (hs' acc (by omega))
      refine ⟨zs, e', ?_, k2, by rw [List.length_cons]; omega⟩
      show (ft d e).bind _ = _
      rw [h1]
      show (fc e1).bind _ = _
      rw [h2]
      exact k1
    | true =>
      obtain ⟨y, e3, h4, z, rfl, h5⟩ := (show wm (fe e2) _ from h3)
      obtain ⟨zs, e', k1, k2, k3⟩ := compM_ok I ds (acc ++ [z]) (wipeE e3 vs) h5 (hs' _ (by rw [List.length_append]; simp))
      refine ⟨z :: zs, e', ?_, by rwa [List.append_assoc] at k2, by rw [List.length_cons, List.length_cons]; omega⟩
      show (ft d e).bind _ = _
      rw [h1]
      show (fc e1).bind _ = _
      rw [h2]
      show (fe e2).bind _ = _
      rw [h4]
      show (compM vs ft fc fe ds (wipeE e3 vs)).map _ = _
      rw [k1]; rfl
theorem wm_comp {β : Type} {vs : List Nat} {fi : Mo (List D)} {ft : D → VL.Env → Option VL.Env} {fc : Mo Bool} {fe : Mo D} {env : VL.Env} {Q : D → VL.Env → Prop} {en : β → D} (I : List β → VL.Env → Prop)
    (h : wm (fi env) fun xs e => I [] (wipeE e vs) ∧ (∀ acc d e, d ∈ xs → acc.length < xs.length → I acc e → ∃ e1, ft d e = some e1 ∧ wm (fc e1) fun b e2 => if b = true then wm (fe e2) fun y e3 => ∃ z : β, y = en z ∧ I (acc ++ [z]) (wipeE e3 vs) else I acc (wipeE e2 vs)) ∧
      ∀ acc e, acc.length ≤ xs.length → I acc e → Q (.lst (acc.map en)) e) : wm (mComp vs fi ft fc fe env) Q := by
  obtain ⟨xs, e, h1, h2, h3, h4⟩ := h
  obtain ⟨zs, e', k1, k2, k3⟩ := compM_ok I xs [] (wipeE e vs) h2 (fun acc d e m l i => h3 acc d e m (by simpa using l) i)
  refine ⟨.lst (zs.map en), e', ?_, h4 zs e' k3 (by simpa using k2)⟩
  simp only [mComp, h1, Option.bind_some, k1, Option.map_some]
/-- range(n), n drawn -/
theorem wm_rng1 {f : Mo (List D)} {env : VL.Env} {Q : List D → VL.Env → Prop} (h : wm (f env) fun ds e => ∃ xs, rng1 ds = some xs ∧ Q xs e) : wm (mB f rng1 env) Q := by
  obtain ⟨ds, e, h1, xs, h2, q⟩ := h
  exact ⟨xs, e, by simp only [mB, h1, Option.bind_some, h2, Option.map_some], q⟩
theorem rangeD_len (lo : Int) (n : Nat) : (rangeD lo n).length = n := by rw [rangeD_eq, List.length_map, List.length_range]
end VL

set_option Elab.async false
set_option linter.all false
set_option maxRecDepth 100000
/-! VL22: slices of tuples; zip, reversed; lists made by a built-in, extend, with draws. -/
namespace VL
open PySem PySem.Spec PyProof.Rows L2
section
variable {X : Cx} {a : Expr} {fa : VL.Env → Option D} {pos : Pos}
def tupOf : D → Option (List D)
  | .tup xs => some xs
  | _ => none
theorem tupOf_some {d : D} {xs : List D} (h : tupOf d = some xs) : d = .tup xs := by
  cases d <;> first | (cases h; rfl) | cases h
@[simp] abbrev dCutU (f : VL.Env → Option D) (l h : VL.Env → Option (Option Int)) : VL.Env → Option D := fun env => (f env).bind fun d => (tupOf d).bind fun xs => (l env).bind fun l => (h env).bind fun h => some (.tup (cutD xs l h))
theorem cut_whole {α : Type} {xs : List α} {lo hi : Option Int} (h : HT.sIx xs.length 0 lo = 0 ∧ HT.sIx xs.length xs.length hi = xs.length) : VL.cutD xs lo hi = xs := by
  unfold VL.cutD
  rw [h.1, h.2]
  simp
theorem v_sliceU {lo hi : Option Expr} {p2 : Pos} {fl fh : VL.Env → Option (Option Int)} (ha : PV X a fa) (hl : SP1 X lo fl) (hh : SP1 X hi fh) :
    PV X (.Subscript a (.Slice lo hi none p2) pos) (dCutU fa fl fh) := by
  obtain ⟨t, p, o⟩ := ha.ex
  obtain ⟨tl, pl, ol⟩ := hl.ex
  obtain ⟨th, ph, oh⟩ := hh.ex
  refine ⟨_, pe_slice sl_tupA p pl ph, fun G H st env F Q ds re e k => ?_⟩
  obtain ⟨d, e1, e⟩ := Option.bind_eq_some_iff.mp e
  obtain ⟨xs, e2, e⟩ := Option.bind_eq_some_iff.mp e
  obtain ⟨l, e3, e⟩ := Option.bind_eq_some_iff.mp e
  obtain ⟨h, e4, e⟩ := Option.bind_eq_some_iff.mp e
  cases e
  obtain rfl := tupOf_some e2
  refine o G H st env F _ _ re e1 fun v G1 H1 x1 r1 => ol G1 H1 st env F _ _ (re.ext x1) e3 fun G2 H2 x2 => oh G2 H2 st env F _ _ ((re.ext x1).ext x2) e4 fun G3 H3 x3 => ?_
  have x123 := (x1.trans x2).trans x3
  cases r1 with
  | @tup b vs _ h1 l1 =>
    have g3 : G3 b = some (.tup vs) := x3.gg _ _ (x2.gg _ _ h1)
    refine ⟨_, _, rfl, SqT.of (x123.gh _ _ g3), fun hw => ?_, fun hw q hq => ?_⟩
    · have hw' : HT.sIx xs.length 0 l = 0 ∧ HT.sIx xs.length xs.length h = xs.length := by rw [← l1.length]; exact hw
      refine k _ G3 _ x123 ?_
      rw [cut_whole hw']
      exact .tup g3 (l1.up (x2.gg.trans x3.gg))
    · exact k _ _ _ (x123.trans (Ex.frz x123.gh hq)) (.tup upd_same (((l1.cut l h).up (x2.gg.trans x3.gg)).up (same_upd (x123.gh.free hq))))
end
section
variable {X : Cx} {pos : Pos} {fa fb : VL.Env → Option D} {tg : Expr}
/-! reversed -/
theorem rev_get {α : Type} {xs : List α} {i : Nat} {d : α} (h : xs.reverse[i]? = some d) : i < xs.length ∧ xs[xs.length - 1 - i]? = some d := by
  have hi : i < xs.length := by
    have := (List.getElem?_eq_some_iff.mp h).1
    rwa [List.length_reverse] at this
  rw [List.getElem?_reverse hi] at h
  exact ⟨hi, h⟩
theorem yl_rev {K : PySem.W.Frag} {G1 : Hp} {a : Addr} {vs : List V} {xs : List D} (h : G1 a = some (.lst vs)) (l : RpL K G1 vs xs) (hz : vs.length ≤ sizeLine) : Yl K G1 G1 (Itv K a vs.length) xs.reverse := by
  refine ⟨by rw [List.length_reverse, ← l.length]; exact hz, fun i G2 H2 s1 s2 s3 d e => ?_, fun i G2 H2 s1 s2 s3 e => ?_⟩
  · obtain ⟨hi, e2⟩ := rev_get e
    rw [← l.length] at hi e2
    obtain ⟨v, hv, rv⟩ := l.get e2
    have hh : H2 a = some (.lst vs) := s3 _ _ (s1 _ _ h)
    refine ⟨⟨hi, vs, v, SqL.of hh, hv⟩, fun w H3 ⟨e3, q⟩ => ?_⟩
    subst e3
    have := q vs (SqL.of hh)
    rw [hv] at this
    cases this
    exact ⟨_, Ex.refl s3, rv.up s1⟩
  · show vs.length ≤ i
    rw [e, List.length_reverse, l.length]; exact Nat.le_refl _
theorem yl_revT {K : PySem.W.Frag} {G1 : Hp} {a : Addr} {vs : List V} {xs : List D} (h : G1 a = some (.tup vs)) (l : RpL K G1 vs xs) (hz : vs.length ≤ sizeLine) : Yl K G1 G1 (RT.ItvT K a vs.length) xs.reverse := by
  refine ⟨by rw [List.length_reverse, ← l.length]; exact hz, fun i G2 H2 s1 s2 s3 d e => ?_, fun i G2 H2 s1 s2 s3 e => ?_⟩
  · obtain ⟨hi, e2⟩ := rev_get e
    rw [← l.length] at hi e2
    obtain ⟨v, hv, rv⟩ := l.get e2
    have hh : H2 a = some (.tup vs) := s3 _ _ (s1 _ _ h)
    refine ⟨⟨hi, vs, v, SqT.of hh, hv⟩, fun w H3 ⟨e3, q⟩ => ?_⟩
    subst e3
    have := q vs (SqT.of hh)
    rw [hv] at this
    cases this
    exact ⟨_, Ex.refl s3, rv.up s1⟩
  · show vs.length ≤ i
    rw [e, List.length_reverse, l.length]; exact Nat.le_refl _
@[simp] abbrev iRv (f : VL.Env → Option D) : VL.Env → Option (List D) := fun env => (f env).bind fun d => (seqOf d).map List.reverse
theorem i_rev {e : Expr} {p : Pos} (hg : Gl X "reversed") (hm : X.mg "reversed" = none) (h : PV X e fa) (hs : starEach [e] X.env = (false, eval e X.env) :: starEach [] X.env := by rfl) : IV X tg (.Call (.Name "reversed" p) [e] [] pos) (iRv fa) := by
  obtain ⟨t, pa, o⟩ := h.ex
  refine ⟨_, RT.pi_revA hg hm (pe_hlen pa) hs, fun G H st env F R xs r e k => ?_⟩
  obtain ⟨d, e1, e2⟩ := Option.bind_eq_some_iff.mp e
  obtain ⟨ys, e3, rfl⟩ := Option.map_eq_some_iff.mp e2
  refine o G H st env F _ _ r e1 fun v G' H' x rv hz => ?_
  cases rv with
  | lst h l =>
    cases e3
    exact ⟨_, _, rfl, .inl ⟨SqL.of (x.gh _ _ h), k _ G' H' x (yl_rev h l (hz.1 _ _ (x.gh _ _ h)))⟩⟩
  | tup h l =>
    cases e3
    exact ⟨_, _, rfl, .inr ⟨SqT.of (x.gh _ _ h), k _ G' H' x (yl_revT h l (hz.2 _ _ (x.gh _ _ h)))⟩⟩
  | _ => cases e3
/-! zip -/
def zipD (xs ys : List D) : List D := List.zipWith (fun x y => D.tup [x, y]) xs ys
theorem yl_zip {K : PySem.W.Frag} {G1 : Hp} {a b : Addr} {vs us : List V} {xs ys : List D} (h : G1 a = some (.lst vs)) (h' : G1 b = some (.lst us)) (l : RpL K G1 vs xs) (l' : RpL K G1 us ys) (hz : vs.length ≤ sizeLine) : Yl K G1 G1 (Itz K a b) (zipD xs ys) := by
  have hl : (zipD xs ys).length = min xs.length ys.length := by unfold zipD; rw [List.length_zipWith]
  refine ⟨by rw [hl, ← l.length]; omega, fun i G2 H2 s1 s2 s3 d e => ?_, fun i G2 H2 s1 s2 s3 e => ?_⟩
  · unfold zipD at e
    rw [List.getElem?_zipWith] at e
    cases hx : xs[i]? with
    | none => rw [hx] at e; cases e
    | some x =>
      cases hy : ys[i]? with
      | none => rw [hx, hy] at e; cases e
      | some y =>
        rw [hx, hy] at e
        cases e
        obtain ⟨v, hv, rv⟩ := l.get hx
        obtain ⟨u, hu, ru⟩ := l'.get hy
        have hh : H2 a = some (.lst vs) := s3 _ _ (s1 _ _ h)
        have hh' : H2 b = some (.lst us) := s3 _ _ (s1 _ _ h')
        refine ⟨⟨vs, us, v, u, SqL.of hh, SqL.of hh', hv, hu⟩, fun w H3 ⟨T, x', y', ew, nT, e3, q, q'⟩ => ?_⟩
        subst ew e3
        have k1 := q vs (SqL.of hh)
        have k2 := q' us (SqL.of hh')
        rw [hv] at k1
        rw [hu] at k2
        cases k1
        cases k2
        exact ⟨_, Ex.frz s3 nT, .tup upd_same (.cons ((rv.up s1).up (same_upd (s3.free nT))) (.cons ((ru.up s1).up (same_upd (s3.free nT))) .nil))⟩
  · exact ⟨vs, us, SqL.of (s3 _ _ (s1 _ _ h)), SqL.of (s3 _ _ (s1 _ _ h')), by rw [l.length, l'.length, e, hl]; omega⟩
@[simp] abbrev iZp (fs : VL.Env → Option (List D)) : VL.Env → Option (List D) := fun env => (fs env).bind fun ds => match ds with
  | [.lst xs, .lst ys] => some (zipD xs ys)
  | _ => none
theorem pa_hlen {es : List Expr} {t : TA} (h : PA X es t) : PA X es (fun st H Q => t st H fun v H' => HLen H' → Q v H') := by
  refine ⟨fun pos pins s st H Q I hw => ?_⟩
  exact thn (h.run pos pins s st H _ I hw) fun us s1 ⟨vs, H1, I1, r1, q1⟩ => ⟨vs, H1, I1, r1, q1 (hlen_of I1)⟩
theorem i_zip {e e2 : Expr} {fs : VL.Env → Option (List D)} {p tpos : Pos} {elts : List Expr} {kk : Nat} (hg : Gl X "zip") (hm : X.mg "zip" = none) (h : AV X [e, e2] fs) (hs : starEach [e, e2] X.env = (false, eval e X.env) :: starEach [e2] X.env := by rfl) (hpl : (backTo pos (starEach [e2] X.env)).any (·.1) = false := by rfl) :
    IV X (.Tuple elts kk tpos) (.Call (.Name "zip" p) [e, e2] [] pos) (iZp fs) := by
  obtain ⟨t, pa, o⟩ := h.ex
  refine ⟨_, pi_hlen (pi_zip hg hm pa hs hpl), fun G H st env F R xs r e k => ?_⟩
  obtain ⟨ds, e1, e2⟩ := Option.bind_eq_some_iff.mp e
  refine o G H st env F _ _ r e1 fun vs G' H' x rv => ?_
  split at e2
  · cases e2
    cases rv with
    | cons r1 r2 =>
      cases r2 with
      | cons r2 r3 =>
        cases r3
        cases r1 with
        | lst h1 l1 =>
          cases r2 with
          | lst h2 l2 => exact ⟨_, _, _, _, rfl, SqL.of (x.gh _ _ h1), SqL.of (x.gh _ _ h2), fun hz => k _ G' H' x (yl_zip h1 h2 l1 l2 (hz.1 _ _ (x.gh _ _ h1)))⟩
  · cases e2
end
/-! a list made by a built-in, with draws -/
section
variable {X : Cx} {x : Str} {p pos : Pos} {id : String} {e : Expr} {es : List Expr} {fs : Mo (List D)}
theorem callL_F {v : Value} {g : List D → Option (List D)} (h : CallL X v g) : CallF X v (fun ds => (g ds).map D.lst) := by
  obtain ⟨r, hr, o⟩ := h
  refine ⟨r, hr, fun G H vs ds z Q s rv e k => ?_⟩
  obtain ⟨zs, e1, rfl⟩ := Option.map_eq_some_iff.mp e
  refine o G H vs ds zs Q s rv e1 fun q us G' H' x2 hn g hq l => ?_
  have up := frzG_up (G := G') (H := H') (l := [q]) fun a m => by cases List.mem_singleton.mp m; exact g
  refine k _ (frzG G' H' [q]) H' ⟨x2.hh, x2.gg.trans up, frzG_in x2.gh, fun b hb => ?_⟩ (.lst (by unfold frzG; rw [if_pos (List.mem_singleton.mpr rfl)]; exact hq) (l.up up))
  unfold frzG at hb
  split at hb
  · rename_i m
    cases List.mem_singleton.mp m
    exact .inr hn
  · exact x2.nw b hb
theorem m_callL {g : List D → Option (List D)} (hc : CallL X (.builtin id) g) (hg : Gl X x) (hm : X.mg x = none) (hv : bootBuiltins x = some (.builtin id)) (ha : MA X (e :: es) fs) (hn : x ≠ "__name__" := by decide) (hdb : (x == ("__debug__" : Str)) = false := by decide)
    (he : starEach (e :: es) X.env = (false, eval e X.env) :: starEach es X.env := by rfl) (hpl : (backTo pos (starEach es X.env)).any (·.1) = false := by rfl) : MV X (.Call (.Name x p) (e :: es) [] pos) (mB fs fun ds => (g ds).map D.lst) :=
  m_callBF (callL_F hc) hg hm hv ha hn hdb he hpl
@[simp] abbrev mBL (fs : Mo (List D)) (g : List D → Option (List D)) : Mo D := mB fs fun ds => (g ds).map D.lst
theorem m_callTL {g : List D → Option (List D)} (hc : CallL X (.type id) g) (hg : Gl X x) (hm : X.mg x = none) (hv : bootBuiltins x = some (.type id)) (ha : MA X (e :: es) fs) (hn : x ≠ "__name__" := by decide) (hdb : (x == ("__debug__" : Str)) = false := by decide)
    (he : starEach (e :: es) X.env = (false, eval e X.env) :: starEach es X.env := by rfl) (hpl : (backTo pos (starEach es X.env)).any (·.1) = false := by rfl) : MV X (.Call (.Name x p) (e :: es) [] pos) (mBL fs g) := by
  obtain ⟨r, hr, o⟩ := callL_F hc
  obtain ⟨t, pa, oa⟩ := ha.ex
  refine ⟨_, pe_callTy hr hg hm hv pa hn hdb he hpl, fun c G H st env F Q d env' r q e k => ?_⟩
  obtain ⟨ds, e1, e2⟩ := mB_some e
  exact oa c G H st env F _ _ env' r q e1 fun vs G1 H1 F1 r1 q1 s1 rv => o G1 H1 vs ds d Q r1.sub rv e2 fun v G' H' x2 r2 => k v G' H' F1 (r1.ext x2) (q1.ext x2) (s1.trans x2.gg) r2
end
/-! x.extend(e), e with draws -/
@[simp] def sExtM (i : Nat) (fe : Mo D) : VL.Env → Option Out := fun env => (getS env i).bind fun z0 => (olOf z0).bind fun _ => (fe env).bind fun x => (getS x.2 i).bind fun z => (olOf z).bind fun ds => (lstOf x.1).bind fun es => if ds.length + es.length ≤ sizeLine then some (.nx (x.2.set i (some (.ol ((ds ++ es).map S.fz))))) else none
section
variable {X : Cx} {x : Str} {pos : Pos} {e : Expr} {fm : Mo D}
theorem s_extM (i : Nat) {xpos apos cpos : Pos} (he : MV X e fm) (hN : X.N[i]? = some x := by rfl) (hv : Vis X.env.scope x := by first | exact Or.inl rfl | exact Or.inr (Or.inl rfl) | exact Or.inr (Or.inr rfl))
    (hd : (x == ("__debug__" : Str)) = false := by decide) (hcd : (x == ("__classdict__" : Str)) = false := by decide)
    (hbase : attributeBase (.Name x xpos) "extend" X.env (eval (.Name x xpos) X.env) = eval (.Name x xpos) X.env := by rfl)
    (hfew : ((backTo cpos (starEach [e] X.env)).all (fun x => !x.1) && (backToKw cpos (keywordEach [] X.env)).all (fun x => x.1.isSome)
      && decide ([e].length + ([] : List Keyword).length + (if ([] : List Keyword).isEmpty then 0 else 1) < 30)) = true := by rfl)
    (hline : (apos.endLine == cpos.line) = true := by rfl) (hs : starEach [e] X.env = (false, eval e X.env) :: starEach [] X.env := by rfl)
    (hsw : swapsWith (.Call (.Attribute (.Name x xpos) "extend" apos) [e] [] cpos) none pos.line X.env = pure false := by rfl) :
    SV X (.Expr (.Call (.Attribute (.Name x xpos) "extend" apos) [e] [] cpos) pos) (sExtM i fm) := by
  obtain ⟨t, p, o⟩ := he.ex
  refine ⟨_, ps_expr (pe_bm PySem.F.plainAttrs_list PySem.F.slot_list_extend PySem.F.type_list_extend mt_extend (pe_var hN hv hd hcd) (pa_cons p pa_nil hs) hbase hfew hline hs rfl) hsw, fun c G H s env F E u r q e k => ?_⟩
  obtain ⟨z0, e0, e⟩ := Option.bind_eq_some_iff.mp (show (getS env i).bind _ = _ from e)
  obtain ⟨ds0, e00, e⟩ := Option.bind_eq_some_iff.mp e
  obtain ⟨⟨d, env'⟩, e1, e⟩ := Option.bind_eq_some_iff.mp e
  obtain ⟨z, e2, e⟩ := Option.bind_eq_some_iff.mp e
  obtain ⟨ds, e3, e⟩ := Option.bind_eq_some_iff.mp e
  obtain ⟨es, e4, e⟩ := Option.bind_eq_some_iff.mp e
  split at e
  · rename_i hl
    cases e
    obtain rfl := olOf_some e3
    obtain rfl := olOf_some e00
    obtain rfl := lstOf_some e4
    obtain ⟨v, h1, h0⟩ := r.slot i _ (getS_some e0)
    generalize F i = F0 at h0
    cases h0 with
    | @ol pp vs0 _ Fx0 g0 _ =>
      refine ⟨_, h1, .inl ⟨rfl, _, SqL.of g0⟩, o c G H s env F _ _ env' r q e1 fun w G' H' F' r' q' s' rw' => ?_⟩
      obtain ⟨v', h2, h3⟩ := r'.slot i _ (getS_some e2)
      rw [h1] at h2
      cases h2
      generalize hFi : F' i = Fi at h3
      cases h3 with
      | @ol p2 vs _ Fx g1 g2 =>
        obtain ⟨l1, rfl⟩ := slRs_rp g2
        have hppF : pp ∈ F' i := by rw [hFi]; exact List.mem_cons_self
        cases rw' with
        | @lst bb ws _ w1 w2 =>
          have ag : ∀ b, b ∉ F' i → (L2.upd H' pp (.lst (vs ++ ws))) b = H' b ∨ H' b = none := fun b hb => .inl (upd_ne fun z => hb (by rw [z]; exact hppF))
          refine ⟨pp, bb, vs, ws, rfl, rfl, g1, r'.sub _ _ w1, by rw [l1.length, w2.length]; exact hl, ?_⟩
          refine k G' _ s _ (r'.upd (l := [pp]) h1 ag (.ol upd_same (slRs_fz (l1.append w2))) (by simp) fun a m => ?_) (CR.upd q' ag fun a m => ?_)
          · cases List.mem_singleton.mp m; exact .inl hppF
          · cases List.mem_singleton.mp m; exact .inl hppF
  · cases e
end
end VL

set_option Elab.async false
set_option linter.all false
set_option maxRecDepth 100000
/-! VL23: the law's own call at the caller of laws (no guards are up there); repr of data. -/
namespace VL
open PySem PySem.Spec PyProof.Rows L2
/-- a def's promise where laws are called from -/
def RunG (P : Program) (w : World) (K : PySem.W.Frag) (mg : Str → Option Value) (bs : Heap) (f : Addr) (fd : FuncData) (ps : List Str) (sp : Sp) : Prop :=
  (∀ vs H Q E, sp vs H Q E → vs.length = ps.length) ∧
  ∀ (t : Shared) (G : Hp) (ar : Args) (us : List Value) (xs : List V) (Q : VK) (E : XK), Env0 P w K mg bs callerA [] t G → BindsTo t fd ar (ps.zip us) → Vals xs us → sp xs G Q E → codeAny (model P w) callerA (.call (.ref f) ar) (L2.CR CX0 [] P w G t Q E) t
section
variable {P : Program} {w : World} {K : PySem.W.Frag} {mg : Str → Option Value} {bs : Heap}
theorem run_of {x qual : Str} {st : Stmt} {f : Addr} {fd : FuncData} {N ps : List Str} {k : Nat} {sp : Sp} (F : Fun K x qual st f fd) (Sc : FnScope N ps (defScope st)) (room : Room (k + 1) callerA) (ln : ∀ vs H Q E, sp vs H Q E → vs.length = ps.length)
    (body : ∀ (cd : Value) (t : Shared) (G : Hp) (xs : List V) (Q : VK) (E : XK), Room k (callerA.deeper (envOfC qual (defScope st) t.heap.objs.size f cd)) → sp xs G Q E →
      ∃ T, PSs (cxOf CX0 P w K mg bs N qual (defScope st) f cd callerA [] t G E).nox (defBody st) T ∧ T { nx := fun _ G' => Q .non G', rt := Q } (L2.start N xs) G) : RunG P w K mg bs f fd ps sp := by
  obtain ⟨oc, od, kV, doc, pm, an, cd, ct, osl, rfl, lk, hcd⟩ := F.ex
  refine ⟨ln, fun t G ar us xs Q E z hb rv hp => ?_⟩
  have hlen := ln _ _ _ _ hp
  have inK := z.mod.kin.keeps fun b o q => (z.bs b o q).1
  have noL := z.mod.nolimit.keeps fun b o q => (z.bs b o q).1
  have kinds : ∀ y ∈ ps.zip us, (defScope st).names.lookup y.1 = some .local ∨ ((defScope st).names.lookup y.1 = some .cell ∧ ((cellsFrom (t.heap.objs.size + 1) (defScope st).names []).lookup y.1).isSome = true) := by
    rintro ⟨n, v⟩ hy
    have h1 := Sc.par n (List.of_mem_zip hy).1
    exact h1.imp _root_.id fun q => ⟨q, PySem.W.cellsFrom_some _ _ _ (.inl q)⟩
  refine codeAny_call_function room.depth (inK _ _ lk) rfl Sc.co Sc.gen rfl (PySem.W.codeRec_of inK hcd) (hb _ _ _ _ ?_)
  refine wpAny_newFunctionEnv_cells Sc.kind kinds fun env he t1 y => ?_
  subst he
  obtain ⟨T, hT, hq⟩ := body cd t G xs Q E (room.deeper _) hp
  refine ⟨noL.keeps y.toInCall.keep, codeAny_func ?_⟩
  have J0 := inv_start (CX := CX0) (E := E) Sc room.hd z hlen rv y
  have ends : ∀ {σ : L2.St} {G' : Hp} {t' : Shared} {v : V} {u : Value}, Inv (cxOf CX0 P w K mg bs N qual (defScope st) f cd callerA [] t G E) [] σ G' t' → RelV v u → Q v G' → CE [] P w G t Q u t' := fun {σ G' t' v u} J rv q => ⟨v, G', J.os, J.bare, J.base, J.hok, rv, q⟩
  refine wpAny_mono (hT.nox.run [] t1 (L2.start N xs) G _ J0 hq) (fun fl t' ht => ?_) fun _ _ ht => ht
  cases fl with
  | next => exact let ⟨_, _, J, q⟩ := ht; ends (v := V.non) (u := Value.none) J rfl q
  | ret u => exact let ⟨_, _, _, J, rv, q⟩ := ht; ends J rv q
  | brk => exact let ⟨_, _, _, q⟩ := ht; False.elim q
  | cont => exact let ⟨_, _, _, q⟩ := ht; False.elim q
/-- the call of the law, over the heap behind the top -/
theorem law_callG {mb : Str → Option Value} {fa a : Addr} {fd : FuncData} {x : Str} {sp : Sp} {t : Shared} {vs : List Value} {ns : List Int}
    (inK : K.In t.heap) (nsG : t.heap.Ns mainGlobals mg) (nsB : t.heap.Ns builtinsNs mb) (hbb : ∀ x : Str, x ≠ "__name__" → mb x = bootBuiltins x) (noL : t.heap.NoLimit) (hg : t.gens = #[])
    (ha : t.heap.get? a = some { cls := .type "list", data := .seq vs.toArray }) (hi : IntsAre vs ns) (hl : ns.length ≤ sizeLine)
    (F : ∀ bs : Heap, K.In bs → bs.Ns mainGlobals mg → RunG P w K mg bs fa fd [x] sp) (hbind : ∀ (s : Shared) (u : Value), BindsTo s fd ⟨[u], []⟩ [(x, u)])
    (hsp : ∀ G : Hp, Only G → SqL K G a (ns.map V.int) → sp [.ref a] G (fun v _ => v = .bl true) fun _ _ _ => False) :
    codeAny (model P w) callerA (.call (.ref fa) ⟨[.ref a], []⟩) (fun r t' => r = .ok (.ret (.bool true)) ∧ OldK t.heap t'.heap ∧ t'.os = t.os ∧ AllBare t'.gens) t := by
  have rv := vals_ints hi
  have lv := hi.length
  suffices go : ∀ G : Hp, Only G → SqL K G a (ns.map V.int) → HOk P w G t.heap → (∀ b, G b ≠ none → b = a) → (G a ≠ none → K.lookup a = none) →
      codeAny (model P w) callerA (.call (.ref fa) ⟨[.ref a], []⟩) (fun r t' => r = .ok (.ret (.bool true)) ∧ OldK t.heap t'.heap ∧ t'.os = t.os ∧ AllBare t'.gens) t by
    cases hk : K.lookup a with
    | some o =>
      have q := inK a o hk
      rw [ha] at q
      cases q
      exact go (fun _ => none) (fun _ => .inl rfl) (.inr ⟨_, vs.toArray, _, hk, rfl, rfl, rfl, by rw [List.size_toArray, lv]; exact hl, by simpa using rv⟩) (fun b u z => by have z2 : (none : Option HO) = some u := z; cases z2) (fun b z => absurd rfl z) fun z => absurd rfl z
    | none =>
      let G0 : Hp := fun b => if b = a then some (.frz { cls := .type "list", data := .seq vs.toArray } (.lst (ns.map V.int))) else none
      have yes : G0 a = some (.frz { cls := .type "list", data := .seq vs.toArray } (.lst (ns.map V.int))) := if_pos rfl
      have no : ∀ b, b ≠ a → G0 b = none := fun b h => if_neg h
      refine go G0 (fun b => ?_) (.inl (.inr ⟨_, yes⟩)) (fun b u z => ?_) (fun b z => ?_) fun _ => hk
      · by_cases h : b = a
        · rw [h]; exact .inr ⟨_, _, yes⟩
        · exact .inl (no b h)
      · by_cases h : b = a
        · subst h
          rw [yes] at z
          cases z
          exact ⟨ha, by rw [List.length_map]; exact hl, vs, _, rv, ha⟩
        · rw [no b h] at z; cases z
      · by_cases h : b = a
        · exact h
        · exact absurd (no b h) z
  intro G onl hS hok only1 hK
  have aOf : ∀ {b : Addr}, G b ≠ none → b = a := fun {b} h => only1 b h
  have hid : ∀ {b : Addr} {o : Obj}, t.heap.get? b = some o → G b = none → (hidT t.heap G).get? b = some o := fun q n => hidT_get q n
  have noD : ∀ {b : Addr} {o : Obj} {es : Array DictEntry} {ep : Nat}, t.heap.get? b = some o → o.data = .dict es ep → G b = none := by
    intro b o es ep q d
    rcases Classical.em (G b = none) with h | h
    · exact h
    · have := aOf h
      subst this
      rw [ha] at q
      cases q
      cases (show Data.seq vs.toArray _ = Data.dict es ep from d)
  have nsK : ∀ {b : Addr} {m : Str → Option Value}, t.heap.Ns b m → (hidT t.heap G).Ns b m := fun ⟨o, es, ep, q, d, r⟩ => ⟨o, es, ep, hid q (noD q d), d, r⟩
  have inH : K.In (hidT t.heap G) := by
    intro b o q
    refine hid (inK b o q) ?_
    rcases Classical.em (G b = none) with h | h
    · exact h
    · have := aOf h
      subst this
      rw [hK h] at q; cases q
  obtain ⟨mc, l1, l2⟩ := noL
  have z : Env0 P w K mg (hidT t.heap G) callerA [] t G := by
    refine ⟨rfl, ⟨inH, nsK nsG, ⟨mb, nsK nsB, hbb⟩, ⟨mc, nsK l1, l2⟩⟩, fun b o q => of_hidT q, Nat.le_of_eq (hidT_size _ _), trivial, fun b hb => ?_, hok, .of_eq hg⟩
    cases (show b ∈ ([] : List Addr) from hb)
  refine codeAny_mono ((F _ inH (nsK nsG)).2 t G ⟨[.ref a], []⟩ [.ref a] [.ref a] _ _ z (hbind t (.ref a)) (.cons rfl .nil) (hsp G onl hS)) fun r t' h => ?_
  cases r with
  | error e => exact False.elim h
  | ok fl => cases fl with
    | ret u =>
      obtain ⟨v, G', os, bare, un, hok', r', q⟩ := h
      cases (show v = .bl true from q)
      cases (show u = Value.bool true from r')
      refine ⟨rfl, OldK.of_keep fun b o e => ?_, os, bare⟩
      rcases onl b with n | ⟨ob, xs, n⟩
      · exact un.keep b o e n (fun m => by cases (show b ∈ ([] : List Addr) from m)) (by simp)
      · have k1 := (hok b _ n).1
        have k2 := (hok' b _ (un.frzs b ob _ n)).1
        rw [e] at k1
        cases k1
        exact k2
    | next => exact False.elim h
    | brk => exact False.elim h
    | cont => exact False.elim h
end
theorem walk_G {l : PySem.W.OpenLaw} {n : Nat} {q : Program} {loose : List Str} {XP : (Str → Option Value) → Heap → Prop} {YP : World → Heap → Prop} {d : DefRec} {K : Params → PySem.W.Frag} {sp : World → Sp} {x : Str}
    (hn : l.most = some n) (hn2 : n ≤ sizeLine) (hdf : d.params.defaults = []) (hY : ∀ (w : World) (h : Heap), YP w h → (K w.params).In h)
    (F : ∀ (w : World) (mg : Str → Option Value) (fa : Addr) (h : Heap), (K w.params).In h → h.Ns mainGlobals mg → mg d.name = some (.ref fa) →
      ∃ fd : FuncData, (∀ (s : Shared) (u : Value), BindsTo s fd ⟨[u], []⟩ [(x, u)]) ∧ ∀ bs : Heap, (K w.params).In bs → bs.Ns mainGlobals mg → RunG l.prog w (K w.params) mg bs fa fd [x] (sp w))
    (hsp : ∀ (w : World) (H : Hp) (a : Addr) (ns : List Int), ns.length ≤ n → Only H → SqL (K w.params) H a (ns.map V.int) → sp w [.ref a] H (fun v _ => v = .bl true) fun _ _ _ => False) :
    PySem.W.WalkO q loose XP YP l.row.toRowW d [] (fun f vs => PySem.call f vs) := by
  refine Att.attach_call hn hdf fun w _ t mg _ fa _ _ _ _ a _ ns G Y _ _ _ hmg hobj hints hlen hg => ?_
  have inK := hY w _ Y
  obtain ⟨fd, hb, hF⟩ := F w mg fa _ inK G.T.g hmg
  exact law_callG inK G.T.g G.T.b G.T.builtins G.T.nolimit hg hobj hints (Nat.le_trans hlen hn2) hF hb fun H hO hS => hsp w H a ns hlen hO hS
/-! ### repr -/
mutual
theorem D.noDict : ∀ d : D, d.py.hasDict = false
  | .non => rfl
  | .bl _ => rfl
  | .int _ => rfl
  | .str _ => rfl
  | .lst xs => D.noDictL xs
  | .tup xs => D.noDictL xs
  | .dic _ _ => rfl
theorem D.noDictL : ∀ xs : List D, PyData.hasDictAll (D.pyL xs) = false
  | [] => rfl
  | x :: xs => by
    show (x.py.hasDict || PyData.hasDictAll (D.pyL xs)) = false
    rw [D.noDict x, D.noDictL xs]; rfl
end
def showOk (d : D) : Bool := d.plain && d.py.showable && decide (d.py.shown.length ≤ sizeLine) && decide (d.dep ≤ 40)
def dRepr : List D → Option D
  | [d] => if showOk d then some (.str d.py.shown) else none
  | _ => none
section
variable {X : Cx}
def rRepr (K : PySem.W.Frag) : List V → Hp → VK → Prop := fun vs H Q => ∃ (v : V) (d : D), vs = [v] ∧ Rp K H v d ∧ showOk d = true ∧ Q (.str d.py.shown) H
theorem cr_repr {k : Nat} (hr : Room k X.A) (hg : X.A.guards = some []) : CallR X (.builtin "repr") (rRepr X.K) := by
  intro pins s σ H vs us Q I r h
  obtain ⟨v, d, rfl, rd, ok, q⟩ := h
  unfold showOk at ok
  simp only [Bool.and_eq_true, decide_eq_true_eq] at ok
  obtain ⟨⟨⟨ok1, ok2⟩, ok3⟩, ok4⟩ := ok
  have un := hr.units
  cases r with
  | cons r1 r2 =>
    cases r2
    obtain ⟨as, ra⟩ := Dp.reads I _ _ _ (rd.dp _ _ ok1) r1
    have dd := D.dep_py d
    cases rd with
    | non => cases r1; exact PySem.P.repr_of_none ⟨.str _, H, I.tok _, ⟨_, rfl⟩, q⟩
    | bl b => cases r1; exact PySem.P.repr_of_bool ⟨.str _, H, I.tok _, ⟨_, rfl⟩, q⟩
    | int i =>
      obtain ⟨t, rfl⟩ := r1
      exact PySem.P.repr_of_int (by simpa [D.py, PyData.showable] using ok2) ⟨.str _, H, I.tok _, ⟨_, rfl⟩, q⟩
    | str x =>
      obtain ⟨t, rfl⟩ := r1
      exact PySem.P.repr_of_str ⟨.str _, H, I.tok _, ⟨_, rfl⟩, q⟩ (by simpa [D.py, PyData.shown] using ok3)
    | lst h1 l1 => cases r1; exact PySem.repr_of_reads' ra ok2 (PyData.noDict_hsm (D.noDict _)) hg (by rw [dd]; omega) (fun _ _ e => e) (fun h' u tk hk => ⟨.str _, H, I.kept hk, ⟨_, rfl⟩, q⟩) ok3
    | tup h1 l1 => cases r1; exact PySem.repr_of_reads' ra ok2 (PyData.noDict_hsm (D.noDict _)) hg (by rw [dd]; omega) (fun _ _ e => e) (fun h' u tk hk => ⟨.str _, H, I.kept hk, ⟨_, rfl⟩, q⟩) ok3
    | dK _ _ => cases ok1
    | dT _ _ => cases ok1
theorem c_repr {k : Nat} (hr : Room k X.A) (hg : X.A.guards = some []) : CallW X (.builtin "repr") dRepr := by
  refine ⟨_, cr_repr hr hg, fun G H vs ds z Q s r q k => ?_⟩
  unfold dRepr at q
  split at q
  · split at q
    · rename_i ok
      cases q
      cases r with
      | cons r1 r2 =>
        cases r2
        exact ⟨_, _, rfl, r1, ok, k _ _ _ (Ex.refl s) (.str _)⟩
    · cases q
  · cases q
end
section
variable {P : Program} {w : World} {K : PySem.W.Frag} {mg : Str → Option Value} {base : Heap}
theorem law_okG {st st0 : Stmt} {f : Addr} {fd : FuncData} {N : List Str} {k : Nat} {rest : List Stmt} {fb : VL.Env → Option Out} (F : Fun K "law" "law" st f fd) (Sc : FnScope N ["script"] (defScope st)) (hn : N.length = N.length - 2 + 2) (e0 : defBody st = st0 :: rest)
    (room : Room (k + 2) callerA)
    (hb : ∀ (cdv : Value) (s : Shared) (H : Hp) (E : XK), Room (k + 1) (callerA.deeper (envOfC "law" (defScope st) s.heap.objs.size f cdv)) →
      BV (cxOf CX0 P w K mg base N "law" (defScope st) f cdv callerA [] s H E).nox rest fb)
    (hs : ∀ (cdv : Value) (s : Shared) (H : Hp) (E : XK), Room (k + 1) (callerA.deeper (envOfC "law" (defScope st) s.heap.objs.size f cdv)) →
      PS (cxOf CX0 P w K mg base N "law" (defScope st) f cdv callerA [] s H E).nox st0 (tAsg (tCall (spState K) [] E0 (tCons (tVar 0) tNil)) (gName 1)))
    (ht : LawTrue N.length fb) : RunG P w K mg base f fd ["script"] (spLaw K) := by
  refine run_of F Sc room (fun vs H Q E ⟨a, ns, ev, _⟩ => by rw [ev]; rfl) (fun cdv s H vs Q E hr ⟨a, ns, ev, hS, hl, kk⟩ => ?_)
  subst ev
  obtain ⟨t, p, o⟩ := (hb cdv s H E hr).ex
  have ps0 := hs cdv s H E hr
  rw [e0]
  have es : L2.start N [V.ref a] = some (V.ref a) :: List.replicate (N.length - 1) none := rfl
  refine ⟨_, pss_cons ps0 p, ⟨_, by rw [es]; rfl, a, ns, rfl, hS, hl, fun pp qq cs H1 sm np nq npq hp hq hc => ?_⟩⟩
  obtain ⟨env', he⟩ := ht pp cs hc
  have en : N.length - 1 = (N.length - 2) + 1 := by omega
  have e1 : (L2.start N [V.ref a]).set 1 (some (V.ref pp)) = some (V.ref a) :: some (V.ref pp) :: List.replicate (N.length - 2) none := by
    rw [es, en, List.replicate_succ]; rfl
  show t _ ((L2.start N [V.ref a]).set 1 (some (V.ref pp))) H1
  rw [e1]
  have ndpq : [pp, qq].Nodup := by simp [npq]
  refine o ⟨fun _ => none, H1, fun a => a = pp ∨ a = qq⟩ (fun _ => none) H1 _ (lawE N.length pp cs) (fun i => if i = 1 then [pp, qq] else []) _ _ ⟨fun b o e => (by cases e), ?_, fun i z ez => ?_, fun i hi => ?_, fun i a m => rfl, fun i => ?_, fun i j a m m' => ?_⟩ ⟨fun b o e => (by cases e), fun b e => absurd rfl e, fun b o e _ => e, fun i a m => ?_⟩ he ?_
  · unfold lawE; simp
  · unfold lawE at ez
    match i, ez with
    | 1, ez =>
      cases ez
      refine ⟨_, rfl, .at ?_⟩
      exact SlR.ol (F := [qq]) hp (SlRs.cons (F := []) (F' := [qq]) (.fz (.int _)) (SlRs.cons (F := [qq]) (F' := []) (SlR.ol (F := []) hq (slRs_fz (RpL.of_ints _))) .nil))
    | i + 2, ez =>
      have := List.mem_of_getElem? (show (List.replicate (N.length - 2) (none : Option S))[i]? = some (some z) from ez)
      rw [List.mem_replicate] at this
      cases this.2
  · by_cases c : i = 1
    · subst c; exact absurd rfl (hi _)
    · exact if_neg c
  · show (if i = 1 then [pp, qq] else []).Nodup
    split
    · exact ndpq
    · exact .nil
  · split at m <;> split at m'
    · rename_i c c'; rw [c, c']
    · cases m'
    · cases m
    · cases m
  · split at m
    · exact .inr (by simpa using m)
    · cases m
  · exact fun v G' H' st' F' l r q sl _ _ _ => by
      cases sl with
      | fz rv => cases rv; exact kk H'
end
end VL

set_option Elab.async false
set_option linter.all false
set_option maxRecDepth 100000
/-! VL24: xs[::-1]. -/
namespace VL
open PySem PySem.Spec PyProof.Rows L2
section
variable {X : Cx} {e : Expr} {fa : VL.Env → Option D}
@[simp] abbrev dRev (f : VL.Env → Option D) : VL.Env → Option (List D) := fun env => (f env).bind fun d => (lstOf d).map List.reverse
theorem l_rev {kk : Nat} {p1 p2 p3 pos : Pos} (ha : PV X e fa) : PL X (.Subscript e (.Slice none none (some (.UnaryOp .USub (.Constant (.int 1) kk p1) p2)) p3) pos) (dRev fa) := by
  obtain ⟨t, p, o⟩ := ha.ex
  refine ⟨_, pe_revL p, fun G H st env F Q ds re e k => ?_⟩
  obtain ⟨d, e1, e⟩ := Option.bind_eq_some_iff.mp e
  obtain ⟨xs, e2, rfl⟩ := Option.map_eq_some_iff.mp e
  obtain rfl := lstOf_some e2
  refine o G H st env F _ _ re e1 fun v G1 H1 x1 r1 => ?_
  cases r1 with
  | lst h1 l1 => exact ⟨_, _, rfl, SqL.of (x1.gh _ _ h1), fun q np => k q _ G1 _ (x1.trans (Ex.own x1.gh np)) (x1.hh.free np) (x1.gh.free np) upd_same l1.reverse⟩
end
end VL

set_option Elab.async false
set_option linter.all false
set_option maxRecDepth 100000
/-! VL25: sets: sorted(set(xs)), len(set(xs)) of ints and of tuples of ints. -/
namespace L2
open PySem PySem.Spec PyProof.Rows
section
variable {P : Program} {w : World} {A : Around} {E : Value → Shared → Prop} {s : Shared}
set_option maxRecDepth 100000 in
set_option maxHeartbeats 3200000 in
/-- set(xs), xs a list of ints: what it is, with its table -/
theorem call_set_lstI {l : Addr} {items : Array Value} (ns : List Int) {Q : Value → Shared → Prop} (hh : A.handled = none) (hl : s.heap.IsList l items) (hit : IntsAre items.toList ns) (hb : ns.length + 1 < scanBound)
    (h : ∀ (h' : Heap) (tk c : Nat), SetR w h' s.heap.objs.size (fun j => decide (j ∈ ns)) c → c ≤ ns.length → (∀ b o, s.heap.get? b = some o → h'.get? b = some o) → Q (.ref s.heap.objs.size) { s with heap := h', toks := tk }) :
    wpAny (model P w) A (call (.type "set") [.ref l]) Q E s := by
  have hisz : items.size = ns.length := by
    have q := IntsAre.length hit
    rwa [Array.length_toList] at q
  obtain ⟨c, tl, hmro⟩ := F.called_set.mro
  have hmade := F.called_set.made
  have hsub := F.called_set.sub
  refine wpAny_call (codeAny_of_tree ?_)
  show wpAny _ _ (callAny (.type "set") _) _ _ _
  refine wpAny_pure ⟨Code.quiet_builtin _ (by decide +kernel), codeAny_builtin F.entry_type_call ?_⟩
  rw [Around.under_plain (weight_type_call_type "set" [.ref l] []) rfl]
  have h1 := F.called_set.notType
  have h2 := F.called_set.canCreate
  have hct := F.typeCall_set_1 (.ref l)
  repeat (any_goals (first | assumption | wp_step))
  refine codeAny_mono (code_set_led1 (.ref l) (E := E) (Q₁ := fun obj s₁ => obj = .ref s.heap.objs.size ∧ s₁ = { s with heap := s.heap.push { cls := .type "set", dict := none, data := .set #[] 0 (.fresh 0 0 (!w.params.followText "set-order")) } }) ⟨rfl, rfl⟩) fun r s₁ hr => ?_
  cases r with
  | error e => exact hr
  | ok fl =>
    cases fl with
    | ret obj =>
      obtain ⟨rfl, rfl⟩ := hr
      have hS : (s.heap.push { cls := .type "set", dict := none, data := .set #[] 0 (.fresh 0 0 (!w.params.followText "set-order")) }).get? s.heap.objs.size = some { cls := .type "set", dict := none, data := .set #[] 0 (.fresh 0 0 (!w.params.followText "set-order")) } := Heap.get?_push_size _ rfl
      have hT : Shared.TypeIs { s with heap := s.heap.push { cls := .type "set", dict := none, data := .set #[] 0 (.fresh 0 0 (!w.params.followText "set-order")) } } (.ref s.heap.objs.size) "set" := ⟨_, hS, rfl⟩
      have hli := F.called_set.init.lookup
      have hbi := F.called_set.init.bind (.ref s.heap.objs.size)
      repeat (any_goals (first | assumption | wp_step))
      refine codeAny_mono (codeAny_call_builtin (R := wants (fun r s₂ => r = .none ∧ ∃ h' tk c, s₂ = { s with heap := h', toks := tk } ∧ SetR w h' s.heap.objs.size (fun j => decide (j ∈ ns)) c ∧ c ≤ ns.length ∧
          (∀ b o, s.heap.get? b = some o → h'.get? b = some o)) E) F.called_set.init.plain F.entry_set_init (check_set_init_1 hT ?_)) fun r₂ s₂ hr₂ => ?_
      · have hlS : l < s.heap.objs.size := by obtain ⟨_, e, _⟩ := hl; exact Heap.lt_size e
        obtain ⟨⟨ocls, odict, odata, oslots⟩, hol, hcl, nl, hdl⟩ := hl
        simp only at hcl hdl
        subst hcl; subst hdl
        have hol' : (s.heap.push { cls := .type "set", dict := none, data := .set #[] 0 (.fresh 0 0 (!w.params.followText "set-order")) }).get? l = some { cls := .type "list", dict := odict, data := .seq items nl, slots := oslots } := Heap.get?_push_of_some _ hol
        have hsls := F.sub_list_set
        have hslf := F.sub_list_frozenset
        have hne : (Value.type "list" == Value.type "dict") = false := by decide
        have hl1 : (s.heap.push { cls := .type "set", dict := none, data := .set #[] 0 (.fresh 0 0 (!w.params.followText "set-order")) }).IsList l items := ⟨_, hol', rfl, nl, rfl⟩
        unfold Builtin.«set.__init__» noKeywords Builtin.Frozenset.updateFrom
        generalize hPI : pyIter = PI
        wp_walk
        subst hPI
        refine wpAny_pyIter_list hl1 ?_
        refine wpAny_bind (wpAny_runValue ?_)
        have hh3 : A.in1.in1.in1.handled = none := by simp [hh]
        have hz : (s.heap.push { cls := .type "set", dict := none, data := .set #[] 0 (.fresh 0 0 (!w.params.followText "set-order")) }).objs.size = s.heap.objs.size + 1 := Heap.size_push ..
        have hneI : l ≠ (s.heap.push { cls := .type "set", dict := none, data := .set #[] 0 (.fresh 0 0 (!w.params.followText "set-order")) }).objs.size := by
          rw [Heap.size_push]; exact Nat.ne_of_lt (Nat.lt_succ_of_lt hlS)
        have hSf : s.heap.objs.size ∉ [(s.heap.push { cls := .type "set", dict := none, data := .set #[] 0 (.fresh 0 0 (!w.params.followText "set-order")) }).objs.size, l] := by
          rw [Heap.size_push]; simp only [List.mem_cons, List.not_mem_nil, or_false, not_or]
          exact ⟨Nat.ne_of_lt (Nat.lt_succ_self _), Nat.ne_of_gt hlS⟩
        have hval : ∀ (i : Nat) (v : Value), items[i]? = some v → ∃ k t, ns[i]? = some k ∧ v = .int k t := fun i v hv => by
          have hi : i < ns.length := by rw [← hisz]; exact (Array.getElem?_eq_some_iff.mp hv).1
          obtain ⟨t, e⟩ := PyProof.Rows.IntsAre.int_at hit i v (by rw [Array.getElem?_toList]; exact hv)
          refine ⟨ns[i], t, List.getElem?_eq_getElem hi, ?_⟩
          rw [e, List.getD_eq_getElem?_getD, List.getElem?_eq_getElem hi] <;> rfl
        refine set_update_ints ((Walks.list hh3 _ l hneI items).toS) s.heap.objs.size
          hSf ns hisz hb hval (items.size - 0) 0 _ (by omega) (Nat.zero_le _)
          ⟨⟨_, Heap.get?_push_size _ rfl, rfl, rfl⟩, (hl1.push _)⟩ ?hS0 ?hR
        case hS0 =>
          refine ⟨0, Nat.le_refl 0, setR_new_at ?_⟩
          exact Heap.get?_push_of_some _ hS
        case hR =>
          intro s' c' hm hc' hS'
          obtain ⟨h', g2, d', tk', os'⟩ := s'
          obtain rfl : g2 = s.gens := hm.gens
          obtain rfl : d' = s.drawn := hm.drawn
          obtain rfl : os' = s.os := hm.os
          show wpAny _ _ _ _ _ _
          refine wpAny_pure ?_
          show wpAny _ _ (ret Value.none) _ _ _
          rw [hisz] at hc'
          refine wpAny_pure ⟨rfl, h', tk', c', rfl, hS', hc', fun b o e => ?_⟩
          have hb0 : b < s.heap.objs.size := Heap.lt_size e
          refine hm.heap b o ?_ (Heap.get?_push_of_some _ (Heap.get?_push_of_some _ e))
          rw [Heap.size_push]; simp only [List.mem_cons, List.not_mem_nil, or_false, not_or]
          exact ⟨Nat.ne_of_lt hb0, Nat.ne_of_lt (Nat.lt_succ_of_lt hb0)⟩
      · cases r₂ with
        | error e => exact hr₂
        | ok fl₂ =>
          cases fl₂ with
          | ret r =>
            obtain ⟨rfl, h', tk, c', rfl, hS', hc', hk'⟩ := hr₂
            repeat (any_goals (first | assumption | wp_step))
            exact h _ _ _ hS' hc' hk'
          | _ => exact hr₂.elim
    | _ => exact hr.elim
end
end L2
namespace VL
open PySem PySem.Spec PyProof.Rows L2
section
variable {X : Cx}
/-- set(xs), xs a list of ints -/
def rSetI (K : PySem.W.Frag) (w : World) : List V → Hp → VK → Prop := fun xs H Q => ∃ (l : Addr) (ns : List Int), xs = [V.ref l] ∧ SqL K H l (ns.map V.int) ∧ ns.length < 2000 ∧
  ∀ a n, H a = none → n ≤ ns.length → Q (.ref a) (upd H a (SetO w a (fun j => decide (j ∈ ns)) n))
theorem cr_setI (hc : X.calm = true) : CallR X (.type "set") (rSetI X.K X.w) := by
  intro pins s σ H xs us Q I r h
  obtain ⟨l, ns, rfl, hl, hf, q⟩ := h
  rw [Vals.ref1 r]
  obtain ⟨its, rv, pl, hz⟩ := I.list hl
  have hn : H s.heap.objs.size = none := I.hok.fresh (Nat.le_refl _)
  refine call_set_lstI (P := X.prog) (w := X.w) ns (I.ok.hd hc) pl.isList (by simpa using ints_of_vals rv) (by unfold scanBound; omega) fun h' tk c R hcn k => ?_
  exact ⟨.ref s.heap.objs.size, upd H s.heap.objs.size (SetO X.w s.heap.objs.size (fun j => decide (j ∈ ns)) c), I.laid (t' := tk) k (Nat.le_refl _) (setO_new R), rfl, q _ c hn hcn⟩
end
end VL

set_option Elab.async false
set_option linter.all false
set_option maxRecDepth 100000
/-! VL26: sorted(set(xs)), len(set(xs)): ints, tuples of ints. -/
namespace L2
open PySem PySem.Spec PyProof.Rows
theorem perm_map_inv {α β : Type} {f : α → β} : ∀ {l1 l2 : List β}, l1.Perm l2 → ∀ L : List α, l2 = L.map f → ∃ L1 : List α, l1 = L1.map f ∧ L1.Perm L := by
  intro l1 l2 h
  induction h with
  | nil => intro L e; cases L with
    | nil => exact ⟨[], rfl, .nil⟩
    | cons x xs => cases e
  | @cons x l1 l2 h ih =>
    intro L e
    cases L with
    | nil => cases e
    | cons y ys =>
      cases e
      obtain ⟨L1, e1, p⟩ := ih ys rfl
      exact ⟨y :: L1, by rw [e1]; rfl, p.cons y⟩
  | swap x y l =>
    intro L e
    match L, e with
    | a :: b :: L, e =>
      cases e
      exact ⟨b :: a :: L, rfl, .swap ..⟩
  | trans h1 h2 ih1 ih2 =>
    intro L e
    obtain ⟨L1, e1, p1⟩ := ih2 L e
    obtain ⟨L2, e2, p2⟩ := ih1 L1 e1
    exact ⟨L2, e2, p2.trans p1⟩
end L2
namespace VL
open PySem PySem.Spec PyProof.Rows L2
def encT (k : List Int) : D := .tup (k.map D.int)
section
variable {X : Cx}
/-- sorted(s), s a set of tuples of ints -/
def rSortedTD (K : PySem.W.Frag) (P : Program) (w : World) : List V → Hp → VK → Prop := fun vs H Q => ∃ (G : Hp) (a : Addr) (L : List (Addr × List Int)), vs = [V.ref a] ∧ H a = some (SetTO P w a L) ∧ Same G H ∧
  (∀ p ∈ L, Rp K G (.ref p.1) (encT p.2)) ∧ (∃ ds, sortOk ds = true ∧ ∀ p ∈ L, encT p.2 ∈ ds) ∧
  ∀ (ys : List V) (L1 : List (Addr × List Int)) (p : Addr), L1.Perm L → (L.map (·.2)).Nodup → RpL K G ys (sortD (L1.map fun p => encT p.2)) → H p = none → Q (.ref p) (upd H p (.lst ys))
theorem each_refs {K : PySem.W.Frag} {G : Hp} : ∀ (L1 : List (Addr × List Int)), (∀ p ∈ L1, Rp K G (.ref p.1) (encT p.2)) → PySem.W.EachIs (StF K G) (L1.map fun q => Value.ref q.1) (L1.map fun p => encT p.2)
  | [], _ => .nil
  | p :: L1, h => .cons ⟨V.ref p.1, rfl, h p (List.mem_cons_self ..)⟩ (each_refs L1 fun q m => h q (List.mem_cons_of_mem _ m))
theorem reads_ints {h : Heap} : ∀ {k : List Int} {us : List Value}, IntsAre us k → ReadsAll h us (D.pyL (k.map D.int)) []
  | _, _, .nil => .nil
  | _, _, .cons n t r => .cons (as := []) (.int n t) (reads_ints r)
theorem reads_tup {P : Program} {w : World} {h : Heap} {k : List Int} {a : Addr} (x : IsT P w h k a) : Reads h (.ref a) (encT k).py [] := by
  obtain ⟨o, items, n, ho, hc, hd, hi⟩ := x
  exact .tuple ho hc hd (reads_ints (ints_of_items hi))
theorem each_rd {h : Heap} {L0 : Addr} : ∀ (L1 : List (Addr × List Int)), (∀ p ∈ L1, Reads h (.ref p.1) (encT p.2).py []) → PySem.W.EachIs (fun v (b : D) => ∃ as, Reads h v b.py as ∧ L0 ∉ as) (L1.map fun q => Value.ref q.1) (L1.map fun p => encT p.2)
  | [], _ => .nil
  | p :: L1, h => .cons ⟨[], h p (List.mem_cons_self ..), by simp⟩ (each_rd L1 fun q m => h q (List.mem_cons_of_mem _ m))
theorem all_perm {α : Type} {f : α → Bool} {l m : List α} (p : l.Perm m) : l.all f = m.all f := by
  rw [Bool.eq_iff_iff, List.all_eq_true, List.all_eq_true]
  exact ⟨fun h x k => h x (p.mem_iff.mpr k), fun h x k => h x (p.mem_iff.mp k)⟩
theorem sortOk_perm {l m : List D} (p : l.Perm m) : sortOk l = sortOk m := by
  unfold sortOk alikeL
  rw [all_perm p, all_perm (f := D.key) p, all_perm (f := D.noKey) p, p.length_eq]
  congr 3
  congr 1
  funext d
  rw [all_perm p]
theorem sortOk_sub {l m : List D} (h : sortOk m = true) (s : ∀ x ∈ l, x ∈ m) (hl : l.length ≤ sizeLine) : sortOk l = true := by
  unfold sortOk alikeL at h ⊢
  simp only [Bool.and_eq_true, Bool.or_eq_true, List.all_eq_true, decide_eq_true_eq] at h ⊢
  obtain ⟨⟨h1, h2⟩, _⟩ := h
  exact ⟨⟨fun x k => ⟨(h1 x (s x k)).1, fun y k' => (h1 x (s x k)).2 y (s y k')⟩, h2.elim (fun q => .inl fun x k => q x (s x k)) (fun q => .inr fun x k => q x (s x k))⟩, hl⟩
theorem cr_sortedTD {k : Nat} (hc : X.calm = true) (hr : Room k X.A) : CallR X (.builtin "sorted") (rSortedTD X.K X.prog X.w) := by
  intro pins s σ H vs us Q I r h
  obtain ⟨G, a, L, rfl, ha, sm, hk, ⟨ds0, ok0, sub0⟩, q⟩ := h
  have R0 : SetT0 X.prog X.w s.heap a L := (I.hok a _ ha).1
  have isT : ∀ p ∈ L, IsT X.prog X.w s.heap p.2 p.1 := fun p m => by
    refine I.isT ?_
    have := (hk p m).up sm
    cases this with
    | tup h1 h2 => rw [RpL.ints h2] at h1; exact SqT.of h1
  obtain ⟨es, ep, t, R⟩ := R0.full isT
  obtain ⟨o, ho, hex, hd⟩ := R.ob
  rw [Vals.ref1 r]
  refine Calls.call_function_entry kind_sorted plain_sorted entry_sorted (args_sorted1 _) ?_
  unfold Builtin.«sorted»
  refine wpAny_bind (m := checkCount "sorted" 1 1 _) (wpAny_pure ?_)
  have hfew := R.few
  have hsz := R.size
  refine wpAny_bind (collect_set (A := X.A.in1) (I.ok.hd hc) ⟨o, ho, hex.1, hd⟩ R.fits (by unfold scanBound; omega) R.tab.ris R.led fun s1 vs k1 hz g1 o1 pm => ?_)
  have hes : es.toList.map (·.2) = L.map fun q => Value.ref q.1 := by
    rw [R.rows]
    unfold rowsOf
    rw [List.map_map] <;> rfl
  rw [hes] at pm
  obtain ⟨L1, rfl, p1⟩ := perm_map_inv pm L rfl
  have sub : ∀ p ∈ L1, p ∈ L := fun p m => p1.mem_iff.mp m
  have hvl : (L1.map fun q => Value.ref q.1).length < 64 := by rw [List.length_map, p1.length_eq]; exact hfew
  refine wpAny_bind (wpAny_newList ?_ (by rw [sizeLine_eq]; omega))
  have hoL : (s1.heap.push (seqObj "list" (L1.map fun q => Value.ref q.1).toArray 0)).get? s1.heap.objs.size = some (seqObj "list" (L1.map fun q => Value.ref q.1).toArray 0) := Heap.get?_push_size _ rfl
  have ok' : sortOk (L1.map fun p => encT p.2) = true := by
    rw [sortOk_perm (p1.map _)]
    refine sortOk_sub ok0 (fun x m => ?_) (by rw [List.length_map, sizeLine_eq]; omega)
    obtain ⟨p, m', rfl⟩ := List.mem_map.mp m
    exact sub0 p m'
  obtain ⟨ok1, ok2, ok3, ok4⟩ := sortOk_ok ok'
  have ok5 := alikeL_ok ok1
  have rd : ∀ p ∈ L1, Reads (s1.heap.push (seqObj "list" (L1.map fun q => Value.ref q.1).toArray 0)) (.ref p.1) (encT p.2).py [] := fun p m =>
    reads_tup (P := X.prog) (w := X.w) (isT_keep (isT p (sub p m)) fun b u e => Heap.get?_push_of_some _ (k1 b u e))
  refine wpAny_bind (wpAny_holding (PySem.W.list_sort_data (s := { s1 with heap := s1.heap.push (seqObj "list" (L1.map fun q => Value.ref q.1).toArray 0) }) (enc := D.py) (R := StF X.K G) hoL (each_refs L1 fun p m => hk p (sub p m)) (each_rd L1 rd) ok2 ok3 ok4 (fun d m => ?_) fun out h1 h2 => ?_))
  · have := (ok5.1 d m).2
    rw [D.dep_py]
    have := hr.units
    have e1 : X.A.in1.units ≤ X.A.units + 1 := by first | exact Nat.le_refl _ | (simp [Around.in1]; done)
    omega
  · obtain ⟨c, hcc⟩ := sortedHeap_at (vs := L1.map fun q => Value.ref q.1) (out := out.toArray) hoL
    obtain ⟨ys, v1, v2⟩ := of_each h2
    have hlen : ys.length ≤ sizeLine := by rw [v1.length, h1]; exact ok4
    have kall : ∀ b u, s.heap.get? b = some u → (sortedHeap (s1.heap.push (seqObj "list" (L1.map fun q => Value.ref q.1).toArray 0)) s1.heap.objs.size (L1.map fun q => Value.ref q.1) out.toArray).get? b = some u := fun b u e => by
      have q := k1 b u e
      have hlt := Heap.lt_size q
      rw [sortedHeap_old (Nat.ne_of_lt hlt) (by rw [size_push']; exact Nat.lt_succ_of_lt hlt)]
      exact Heap.get?_push_of_some _ q
    have hn : H s1.heap.objs.size = none := I.hok.fresh hz
    have J : Inv X pins σ (upd H s1.heap.objs.size (.lst ys)) { s with heap := (sortedHeap (s1.heap.push (seqObj "list" (L1.map fun q => Value.ref q.1).toArray 0)) s1.heap.objs.size (L1.map fun q => Value.ref q.1) out.toArray), gens := s1.gens, drawn := s1.drawn, toks := s1.toks } :=
      I.call (ch := []) (Un.laid kall hz hn) (I.hok.laid kall hz ⟨hlen, out, c, v1, hcc⟩) (by rw [g1]; exact I.bare) (fun _ z => nomatch z)
    have e : ({ s1 with heap := (sortedHeap (s1.heap.push (seqObj "list" (L1.map fun q => Value.ref q.1).toArray 0)) s1.heap.objs.size (L1.map fun q => Value.ref q.1) out.toArray) } : Shared) = { s with heap := (sortedHeap (s1.heap.push (seqObj "list" (L1.map fun q => Value.ref q.1).toArray 0)) s1.heap.objs.size (L1.map fun q => Value.ref q.1) out.toArray), gens := s1.gens, drawn := s1.drawn, toks := s1.toks } := by
      cases s1
      cases s
      cases o1
      rfl
    rw [e]
    refine wpAny_pure ⟨_, rfl, ?_⟩
    exact ⟨.ref s1.heap.objs.size, _, J, rfl, q ys L1 s1.heap.objs.size p1 R.nd v2 hn⟩
end
end VL
namespace VL
open PySem PySem.Spec PyProof.Rows L2
/-- each once, the last ones stay -/
def ddup {α : Type} [DecidableEq α] : List α → List α
  | [] => []
  | x :: xs => if x ∈ xs then ddup xs else x :: ddup xs
section
variable {α : Type} [DecidableEq α]
theorem mem_ddup {x : α} : ∀ {xs : List α}, x ∈ ddup xs ↔ x ∈ xs
  | [] => Iff.rfl
  | y :: xs => by
    unfold ddup
    split
    · rename_i h
      rw [mem_ddup, List.mem_cons]
      exact ⟨.inr, fun q => q.elim (fun e => e ▸ h) id⟩
    · rw [List.mem_cons, List.mem_cons, mem_ddup]
theorem nodup_ddup : ∀ xs : List α, (ddup xs).Nodup
  | [] => List.Pairwise.nil
  | y :: xs => by
    unfold ddup
    split
    · exact nodup_ddup xs
    · rename_i h
      exact List.nodup_cons.mpr ⟨fun q => h (mem_ddup.mp q), nodup_ddup xs⟩
theorem ddup_perm {xs ys : List α} (n : ys.Nodup) (h : ∀ x, x ∈ ys ↔ x ∈ xs) : ys.Perm (ddup xs) :=
  (List.perm_ext_iff_of_nodup n (nodup_ddup xs)).mpr fun x => (h x).trans mem_ddup.symm
theorem ddup_len : ∀ xs : List α, (ddup xs).length ≤ xs.length
  | [] => Nat.le_refl _
  | y :: xs => by
    unfold ddup
    have := ddup_len xs
    split <;> simp only [List.length_cons] <;> omega
end
/-- any two that differ stand one before the other -/
def linD (ds : List D) : Prop := ∀ a ∈ ds, ∀ b ∈ ds, a = b ∨ ltD a b = true ∨ ltD b a = true
theorem sortD_uniq {l m : List D} (p : l.Perm m) (h : linD m) : sortD l = sortD m := by
  refine List.Perm.eq_of_pairwise (le := fun a b => leD a b = true) (fun a b ha hb h1 h2 => ?_) (List.pairwise_mergeSort leD_tot.trans (fun a b => by rw [Bool.or_eq_true]; exact leD_tot.total a b) l)
    (List.pairwise_mergeSort leD_tot.trans (fun a b => by rw [Bool.or_eq_true]; exact leD_tot.total a b) m) (((List.mergeSort_perm l _).trans p).trans (List.mergeSort_perm m _).symm)
  have ma : a ∈ m := p.mem_iff.mp ((List.mergeSort_perm l _).mem_iff.mp ha)
  have mb : b ∈ m := (List.mergeSort_perm m _).mem_iff.mp hb
  rw [leD_eq] at h1 h2
  rcases h a ma b mb with h | h | h
  · exact h
  · rw [h] at h2; cases h2
  · rw [h] at h1; cases h1
theorem sortD_self {l m : List D} (p : l.Perm m) (h : linD m) (s : l.Pairwise fun a b => leD a b = true) : l = sortD m := by
  refine List.Perm.eq_of_pairwise (le := fun a b => leD a b = true) (fun a b ha hb h1 h2 => ?_) s
    (List.pairwise_mergeSort leD_tot.trans (fun a b => by rw [Bool.or_eq_true]; exact leD_tot.total a b) m) (p.trans (List.mergeSort_perm m _).symm)
  have ma : a ∈ m := p.mem_iff.mp ha
  have mb : b ∈ m := (List.mergeSort_perm m _).mem_iff.mp hb
  rw [leD_eq] at h1 h2
  rcases h a ma b mb with h | h | h
  · exact h
  · rw [h] at h2; cases h2
  · rw [h] at h1; cases h1
theorem linD_ints (ns : List Int) : linD (ns.map D.int) := fun a ha b hb => by
  obtain ⟨x, _, rfl⟩ := List.mem_map.mp ha
  obtain ⟨y, _, rfl⟩ := List.mem_map.mp hb
  rw [ltD_int, ltD_int, decide_eq_true_eq, decide_eq_true_eq]
  rcases Int.lt_trichotomy x y with h | h | h
  · exact .inr (.inl h)
  · exact .inl (by rw [h])
  · exact .inr (.inr h)
theorem sorted_ints {ns ms : List Int} (s : ns.Pairwise (· < ·)) (h : ∀ k, k ∈ ns ↔ k ∈ ms) : ns.map D.int = sortD ((ddup ms).map D.int) := by
  have nd : ns.Nodup := s.imp fun h e => by omega
  refine sortD_self ((ddup_perm nd h).map _) (linD_ints _) (List.pairwise_map.mpr (s.imp fun {a b} h => ?_))
  rw [leD_eq, ltD_int]
  simp only [Bool.not_eq_true', decide_eq_false_iff_not]
  omega
theorem setR_card {w : World} {h : Heap} {a : Addr} {ns : List Int} {n : Nat} (R : SetR w h a (fun j => decide (j ∈ ns)) n) : n = (ddup ns).length := by
  obtain ⟨o, es, ep, t, ho, hex, hd, g, nd, hm, hb, hf, hn, _⟩ := R
  have := (ddup_perm (xs := ns) nd fun k => by rw [← hm k, decide_eq_true_eq]).length_eq
  rw [List.length_map, Array.length_toList] at this
  omega
def tupIs : D → Option (List Int)
  | .tup xs => intsOf xs
  | _ => none
theorem tupIs_some {d : D} {k : List Int} (h : tupIs d = some k) : d = encT k := by
  cases d with
  | tup xs => rw [intsOf_some (show intsOf xs = some k from h)]; rfl
  | _ => cases h
@[simp] theorem tupIs_enc (k : List Int) : tupIs (encT k) = some k := intsOf_map k
def tupsIs : List D → Option (List (List Int))
  | [] => some []
  | d :: ds => (tupIs d).bind fun k => (tupsIs ds).map (k :: ·)
theorem tupsIs_some : ∀ {ds : List D} {ks : List (List Int)}, tupsIs ds = some ks → ds = ks.map encT
  | [], _, h => by cases h; rfl
  | d :: ds, _, h => by
    obtain ⟨k, h1, h2⟩ := Option.bind_eq_some_iff.mp (show (tupIs d).bind _ = _ from h)
    obtain ⟨ks, h3, rfl⟩ := Option.map_eq_some_iff.mp h2
    rw [tupIs_some h1, tupsIs_some h3]; rfl
@[simp] theorem tupsIs_map : ∀ ks : List (List Int), tupsIs (ks.map encT) = some ks
  | [] => rfl
  | k :: ks => by
    show (tupIs (encT k)).bind _ = _
    rw [tupIs_enc, tupsIs_map ks]; rfl
/-- sorted(set(ds)) -/
def setSo (ds : List D) : Option (List D) := match intsOf ds with
  | some ns => if ns.length < 64 then some (sortD ((ddup ns).map D.int)) else none
  | none => (tupsIs ds).bind fun ks => if ks.length < 64 ∧ sortOk ds = true ∧ (∀ a ∈ ks, ∀ b ∈ ks, a = b ∨ ltD (encT a) (encT b) = true ∨ ltD (encT b) (encT a) = true) then some (sortD ((ddup ks).map encT)) else none
section
variable {X : Cx}
def rLenSet (w : World) : List V → Hp → VK → Prop := fun vs H Q => ∃ (a : Addr) (ns : List Int), vs = [V.ref a] ∧ (∃ n, H a = some (SetO w a (fun j => decide (j ∈ ns)) n)) ∧ ns.length < 2000 ∧ Q (.int (ddup ns).length) H
theorem cr_lenSet : CallR X (.builtin "len") (rLenSet X.w) := by
  intro pins s σ H vs us Q I r h
  obtain ⟨a, ns, rfl, ⟨n, ha⟩, hl, q⟩ := h
  have R := setO_get I ha
  rw [Vals.ref1 r]
  have e := setR_card R
  have hlen := ddup_len ns
  obtain ⟨o, es, ep, t, ho, hex, hd, g, nd, hm, hb, hf, hn, _⟩ := R
  exact call_len_set ho hex hd hf (by omega) ⟨.int (ddup ns).length, H, I.tok _, ⟨_, by rw [hn, e]⟩, q⟩

theorem refs_tup {K : PySem.W.Frag} {G : Hp} : ∀ {kk : List (List Int)} {vs : List V}, RpL K G vs (kk.map encT) → ∃ ks : List (Addr × List Int), vs = ks.map (fun p => V.ref p.1) ∧ ks.map (·.2) = kk ∧ ∀ p ∈ ks, Rp K G (.ref p.1) (encT p.2)
  | [], _, h => by cases h; exact ⟨[], rfl, rfl, fun p m => (by cases m)⟩
  | k :: kk, _, h => by
    cases h with
    | cons h1 h2 =>
      obtain ⟨ks, rfl, rfl, q⟩ := refs_tup h2
      cases h1 with
      | @tup a xs _ g1 g2 =>
        refine ⟨(a, k) :: ks, rfl, rfl, fun p m => ?_⟩
        rcases List.mem_cons.mp m with rfl | m
        · exact .tup g1 g2
        · exact q p m
theorem Rp.sqT {K : PySem.W.Frag} {H : Hp} {a : Addr} {k : List Int} (h : Rp K H (.ref a) (encT k)) : SqT K H a (k.map V.int) := by
  cases h with
  | tup h1 h2 => rw [RpL.ints h2] at h1; exact SqT.of h1
variable {e : Expr} {f : VL.Env → Option D} {p p2 q pos : Pos}
@[simp] def dSetSo (f : VL.Env → Option D) : VL.Env → Option (List D) := fun env => (f env).bind fun d => (lstOf d).bind setSo
@[simp] def dLenSet (f : VL.Env → Option D) : VL.Env → Option D := fun env => (f env).bind fun d => (lstOf d).bind fun ds => (intsOf ds).bind fun ns => if ns.length < 2000 then some (.int (ddup ns).length) else none
@[simp] def dSetSoI (f : VL.Env → Option D) : VL.Env → Option (List D) := fun env => (f env).bind fun d => (lstOf d).bind fun ds => (intsOf ds).bind fun ns => if ns.length < 64 then some (sortD ((ddup ns).map D.int)) else none
/-- sorted(set(e)) -/
theorem l_setSo {kk : Nat} (hc : X.calm = true) (hr : Room kk X.A) (hg : Gl X "sorted") (hm : X.mg "sorted" = none) (hg2 : Gl X "set") (hm2 : X.mg "set" = none) (ha : PV X e f)
    (he : starEach [e] X.env = (false, eval e X.env) :: starEach [] X.env := by rfl) (he2 : starEach [.Call (.Name "set" p2) [e] [] q] X.env = (false, eval (.Call (.Name "set" p2) [e] [] q) X.env) :: starEach [] X.env := by rfl) :
    PL X (.Call (.Name "sorted" p) [.Call (.Name "set" p2) [e] [] q] [] pos) (dSetSo f) := by
  obtain ⟨t, pt, o⟩ := ha.ex
  have hu : X.A.units + 64 < cLine := by have := hr.units; omega
  refine ⟨_, pe_or' (pe_callB (cr_sortedSet hc) hg hm boot_sorted (pa_cons (pe_callTy (cr_setI hc) hg2 hm2 boot_set (pa_cons pt pa_nil he) (he := he)) pa_nil he2) (he := he2))
    (pe_callB (cr_sortedTD hc hr) hg hm boot_sorted (pa_cons (pe_callTy (cr_setOfT hc hu) hg2 hm2 boot_set (pa_cons pt pa_nil he) (he := he)) pa_nil he2) (he := he2)), fun G H st env F Q ds re ee k => ?_⟩
  obtain ⟨d, e1, ee⟩ := Option.bind_eq_some_iff.mp ee
  obtain ⟨xs, e2, e3⟩ := Option.bind_eq_some_iff.mp ee
  obtain rfl := lstOf_some e2
  unfold setSo at e3
  cases hi : intsOf xs with
  | some ns =>
    rw [hi] at e3
    dsimp only at e3
    split at e3
    · rename_i h64
      cases e3
      obtain rfl := intsOf_some hi
      refine .inl (o G H st env F _ _ re e1 fun v G1 H1 x1 r1 => ?_)
      cases r1 with
      | @lst a vs _ h1 l1 =>
        rw [RpL.ints l1] at h1
        refine ⟨a, ns, rfl, SqL.of (x1.gh _ _ h1), by omega, fun b n np hn => ?_⟩
        refine ⟨b, _, n, rfl, upd_same, by omega, fun ms c s1 m1 ln np2 => ?_⟩
        have x2 : Ex G1 H1 G1 (upd H1 b (SetO X.w b (fun j => decide (j ∈ ns)) n)) := Ex.own x1.gh np
        have x3 := Ex.own (o := .lst (ms.map V.int)) x2.gh np2
        refine k c (ms.map V.int) G1 _ ((x1.trans x2).trans x3) ((x1.trans x2).hh.free np2) (x2.gh.free np2) upd_same ?_
        rw [← sorted_ints s1 fun j => by rw [m1 j, decide_eq_true_eq]]
        exact RpL.of_ints ms
    · cases e3
  | none =>
    rw [hi] at e3
    dsimp only at e3
    obtain ⟨kk', e4, e5⟩ := Option.bind_eq_some_iff.mp e3
    split at e5
    · rename_i hh
      obtain ⟨h64, ok, lin⟩ := hh
      cases e5
      obtain rfl := tupsIs_some e4
      refine .inr (o G H st env F _ _ re e1 fun v G1 H1 x1 r1 => ?_)
      cases r1 with
      | @lst a vs _ h1 l1 =>
        obtain ⟨ks, rfl, rfl, hks⟩ := refs_tup l1
        refine ⟨a, ks, rfl, SqL.of (x1.gh _ _ h1), fun p m => ((hks p m).up x1.gh).sqT, by rw [List.length_map] at h64; exact h64, fun b L np hs hall => ?_⟩
        have x2 : Ex G1 H1 G1 (upd H1 b (SetTO X.prog X.w b L)) := Ex.own x1.gh np
        refine ⟨G1, b, L, rfl, upd_same, x2.gh, fun p m => hks p (hs p m), ⟨_, ok, fun p m => List.mem_map.mpr ⟨p.2, List.mem_map.mpr ⟨p, hs p m, rfl⟩, rfl⟩⟩, fun ys L1 c p1 nd rl np2 => ?_⟩
        have x3 := Ex.own (o := .lst ys) x2.gh np2
        refine k c ys G1 _ ((x1.trans x2).trans x3) ((x1.trans x2).hh.free np2) (x2.gh.free np2) upd_same ?_
        have pm : (L1.map fun p => encT p.2).Perm ((ddup (ks.map (·.2))).map encT) := by
          have q : (L.map (·.2)).Perm (ddup (ks.map (·.2))) := ddup_perm nd fun x => ⟨fun m => ?_, fun m => ?_⟩
          · have := ((p1.map (·.2)).trans q).map encT
            rwa [List.map_map] at this
          · obtain ⟨p, m', rfl⟩ := List.mem_map.mp m
            exact List.mem_map.mpr ⟨p, hs p m', rfl⟩
          · obtain ⟨p, m', rfl⟩ := List.mem_map.mp m
            exact hall p m'
        rw [← sortD_uniq pm fun a ha b hb => ?_]
        · exact rl
        · obtain ⟨x, mx, rfl⟩ := List.mem_map.mp ha
          obtain ⟨y, my, rfl⟩ := List.mem_map.mp hb
          rcases lin x (mem_ddup.mp mx) y (mem_ddup.mp my) with z | z
          · exact .inl (by rw [z])
          · exact .inr z
    · cases e5
theorem v_lenSet (hc : X.calm = true) (hg : Gl X "len") (hm : X.mg "len" = none) (hg2 : Gl X "set") (hm2 : X.mg "set" = none) (ha : PW X e f)
    (he : starEach [e] X.env = (false, eval e X.env) :: starEach [] X.env := by rfl) (he2 : starEach [.Call (.Name "set" p2) [e] [] q] X.env = (false, eval (.Call (.Name "set" p2) [e] [] q) X.env) :: starEach [] X.env := by rfl) :
    PV X (.Call (.Name "len" p) [.Call (.Name "set" p2) [e] [] q] [] pos) (dLenSet f) := by
  obtain ⟨t, pt, o⟩ := ha.ex
  refine ⟨_, pe_callB cr_lenSet hg hm boot_len (pa_cons (pe_callTy (cr_setI hc) hg2 hm2 boot_set (pa_cons pt pa_nil he) (he := he)) pa_nil he2) (he := he2), fun G H st env F Q d re ee k => ?_⟩
  obtain ⟨d1, e1, ea⟩ := Option.bind_eq_some_iff.mp ee
  obtain ⟨xs, e2, eb⟩ := Option.bind_eq_some_iff.mp ea
  obtain ⟨ns, e3, ec⟩ := Option.bind_eq_some_iff.mp eb
  clear ee ea eb
  obtain rfl := lstOf_some e2
  obtain rfl := intsOf_some e3
  split at ec
  · rename_i hl
    cases ec
    refine o G H st env F _ _ re e1 fun v G1 H1 x1 r1 => ?_
    cases r1 with
    | @lst a vs _ h1 l1 =>
      rw [RpL.ints l1] at h1
      refine ⟨a, ns, rfl, SqL.of h1, hl, fun b n np hn => ?_⟩
      exact ⟨b, ns, rfl, ⟨n, upd_same⟩, hl, k _ G1 _ (x1.trans (Ex.own x1.gh np)) (.int _)⟩
  · cases ec
/-- sorted(set(e)), ints, e as it stands -/
theorem l_setSoW (hc : X.calm = true) (hg : Gl X "sorted") (hm : X.mg "sorted" = none) (hg2 : Gl X "set") (hm2 : X.mg "set" = none) (ha : PW X e f)
    (he : starEach [e] X.env = (false, eval e X.env) :: starEach [] X.env := by rfl) (he2 : starEach [.Call (.Name "set" p2) [e] [] q] X.env = (false, eval (.Call (.Name "set" p2) [e] [] q) X.env) :: starEach [] X.env := by rfl) :
    PL X (.Call (.Name "sorted" p) [.Call (.Name "set" p2) [e] [] q] [] pos) (dSetSoI f) := by
  obtain ⟨t, pt, o⟩ := ha.ex
  refine ⟨_, pe_callB (cr_sortedSet hc) hg hm boot_sorted (pa_cons (pe_callTy (cr_setI hc) hg2 hm2 boot_set (pa_cons pt pa_nil he) (he := he)) pa_nil he2) (he := he2), fun G H st env F Q ds re ee k => ?_⟩
  obtain ⟨d, e1, ea⟩ := Option.bind_eq_some_iff.mp ee
  obtain ⟨xs, e2, eb⟩ := Option.bind_eq_some_iff.mp ea
  obtain ⟨ns, e3, ec⟩ := Option.bind_eq_some_iff.mp eb
  clear ee ea eb
  obtain rfl := lstOf_some e2
  obtain rfl := intsOf_some e3
  split at ec
  · rename_i h64
    cases ec
    refine o G H st env F _ _ re e1 fun v G1 H1 x1 r1 => ?_
    cases r1 with
    | @lst a vs _ h1 l1 =>
      rw [RpL.ints l1] at h1
      refine ⟨a, ns, rfl, SqL.of h1, by omega, fun b n np hn => ?_⟩
      refine ⟨b, _, n, rfl, upd_same, by omega, fun ms c s1 m1 ln np2 => ?_⟩
      have x2 : Ex G1 H1 G1 (upd H1 b (SetO X.w b (fun j => decide (j ∈ ns)) n)) := Ex.own x1.gh np
      have x3 := Ex.own (o := .lst (ms.map V.int)) x2.gh np2
      refine k c (ms.map V.int) G1 _ ((x1.trans x2).trans x3) ((x1.trans x2).hh.free np2) (x2.gh.free np2) upd_same ?_
      rw [← sorted_ints s1 fun j => by rw [m1 j, decide_eq_true_eq]]
      exact RpL.of_ints ms
  · cases ec
end
end VL

set_option Elab.async false
set_option linter.all false
set_option maxRecDepth 100000
/-! VL27: xs.index(x); min, max with default=. -/
namespace VL
open PySem PySem.Spec PyProof.Rows L2
section
variable {X : Cx} {a b : Expr} {fa fb : VL.Env → Option D} {p p2 q pos apos : Pos}
/-- the first place -/
def idxD (d : D) : List D → Option Nat
  | [] => none
  | x :: xs => if PyData.eqv x.py d.py = true then some 0 else (idxD d xs).map (· + 1)
theorem idxD_some {d : D} : ∀ {xs : List D} {j : Nat}, idxD d xs = some j → (∃ z, xs[j]? = some z ∧ PyData.eqv z.py d.py = true) ∧ ∀ (m : Nat) (z : D), m < j → xs[m]? = some z → PyData.eqv z.py d.py = false
  | [], _, h => by cases h
  | x :: xs, j, h => by
    unfold idxD at h
    split at h
    · rename_i e
      cases h
      exact ⟨⟨x, rfl, e⟩, fun m z hm => absurd hm (Nat.not_lt_zero m)⟩
    · rename_i e
      obtain ⟨i, h1, rfl⟩ := Option.map_eq_some_iff.mp h
      obtain ⟨⟨z, h2, h3⟩, h4⟩ := idxD_some h1
      refine ⟨⟨z, by simpa using h2, h3⟩, fun m z hm hz => ?_⟩
      cases m with
      | zero =>
        cases (show some x = some z from hz)
        exact Bool.eq_false_iff.mpr e
      | succ m => exact h4 m z (by omega) (by simpa using hz)
def dIndex (l d : D) : Option D := match l with
  | .lst xs => if l.plain && d.plain && SeqAt.shaped l.py && SeqAt.shaped d.py then (idxD d xs).map fun (j : Nat) => D.int (j : Int) else none
  | _ => none
theorem pyL_get : ∀ {xs : List D} {j : Nat}, (D.pyL xs)[j]? = (xs[j]?).map D.py
  | [], _ => by simp [D.pyL]
  | x :: xs, 0 => by simp [D.pyL]
  | x :: xs, j + 1 => by simpa [D.pyL] using pyL_get (xs := xs) (j := j)
theorem v_index {k : Nat} (hr : Room k X.A) (ha : PW X a fa) (hb : PV X b fb)
    (hbase : attributeBase a "index" X.env (eval a X.env) = eval a X.env := by rfl)
    (hfew : ((backTo pos (starEach (b :: []) X.env)).all (fun x => !x.1) && (backToKw pos (keywordEach [] X.env)).all (fun x => x.1.isSome)
      && decide ((b :: []).length + ([] : List Keyword).length + (if ([] : List Keyword).isEmpty then 0 else 1) < 30)) = true := by rfl)
    (hline : (apos.endLine == pos.line) = true := by rfl) (hs : starEach [b] X.env = (false, eval b X.env) :: starEach [] X.env := by rfl) (hplain : (backTo pos (starEach [] X.env)).any (·.1) = false := by rfl) :
    PV X (.Call (.Attribute a "index" apos) [b] [] pos) (b2 fa fb dIndex) := by
  obtain ⟨ta, pa, oa⟩ := ha.ex
  obtain ⟨tb, pb, ob⟩ := hb.ex
  have hun := hr.un
  refine ⟨_, pe_bm PySem.F.plainAttrs_list PySem.F.slot_list_index PySem.F.type_list_index (mt_indexD (by omega)) pa (pa_cons pb pa_nil hs) hbase hfew hline hs hplain, fun G H st env F Q d r e kk => ?_⟩
  obtain ⟨l, e1, e⟩ := Option.bind_eq_some_iff.mp (show (fa env).bind _ = _ from e)
  obtain ⟨z, e2, e3⟩ := Option.bind_eq_some_iff.mp e
  unfold dIndex at e3
  split at e3
  · rename_i xs
    split at e3
    · rename_i g
      simp only [Bool.and_eq_true] at g
      obtain ⟨⟨⟨g1, g2⟩, g3⟩, g4⟩ := g
      obtain ⟨j, e4, rfl⟩ := Option.map_eq_some_iff.mp e3
      obtain ⟨⟨y, y1, y2⟩, y3⟩ := idxD_some e4
      refine oa G H st env F _ _ r e1 fun v G1 H1 x1 r1 => ?_
      have r1' := r1
      cases r1 with
      | @lst p vs _ h1 l1 =>
        refine ⟨.inl ⟨rfl, vs, SqL.of h1⟩, ob G1 H1 st env F _ _ (r.ext x1) e2 fun u G2 H2 x2 r2 => ?_⟩
        have rl := (Rp.up r1' x2.hh).dp (.lst xs) _ g1
        refine ⟨p, u, z.py, D.pyL xs, j, y.py, rfl, rfl, rl, (r2.up x2.gh).dp _ _ g2, g3, g4, by rw [pyL_get, y1]; rfl, y2, fun m z' hm hz => ?_, kk _ G2 H2 (x1.trans x2) (.int _)⟩
        rw [pyL_get] at hz
        obtain ⟨w, hw, rfl⟩ := Option.map_eq_some_iff.mp hz
        exact y3 m w hm hw
    · cases e3
  · cases e3
/-! default= -/
def rMinDf (K : PySem.W.Frag) : List V → List V → Hp → VK → Prop := fun vs zs H Q => ∃ (G : Hp) (a : Addr) (xs : List V) (ds : List D) (z : V), vs = [V.ref a] ∧ zs = [z] ∧ SqL K H a xs ∧ Same G H ∧ RpL K G xs ds ∧ (ds = [] ∨ bestOk ds = true) ∧
  (ds = [] → Q z H) ∧ ∀ d es v, ds = d :: es → Rp K G v (minDD d es) → Q v H
theorem alikeAll_nil : PySem.W.AlikeAll [] := by first | exact trivial | simp [PySem.W.AlikeAll]
theorem cr_minDf {k : Nat} (hr : Room k X.A) : CallRK X (.builtin "min") [Str.ofString "default"] (rMinDf X.K) := by
  intro pins s σ H vs zs us ws Q I r rz h
  obtain ⟨G, a, xs, ds, z, rfl, rfl, hs, sm, rp, ok, q0, q⟩ := h
  obtain ⟨w1, rfl, e1⟩ := vals1 rz
  have hun := hr.un
  have okA : (∀ e ∈ ds, e.plain = true ∧ e.dep ≤ 40) ∧ PySem.W.AlikeAll (ds.map D.py) := by
    rcases ok with rfl | ok
    · exact ⟨fun e m => (by cases m), alikeAll_nil⟩
    · obtain ⟨ok1, ok2⟩ := bestOk_ok ok
      exact ⟨(alikeL_ok ok1).1, ok2⟩
  have hd := dep_max fun e m => (okA.1 e m).2
  rw [Vals.ref1 r]
  obtain ⟨its, rv, hl, _⟩ := I.list hs
  obtain ⟨as, ra⟩ := Dp.readsAll I _ _ _ (RpL.plains (fun e m => (okA.1 e m).1) (rp.up sm)) rv
  refine PySem.W.min_list_default (xs := ds.map D.py) (as := as) hr.hd hl.isList ra okA.2 (by omega) (fun h0 h' tk h3 => ?_) fun y ys i v h' tk bs hy h1 h2 h3 => ?_
  · have : ds = [] := by cases ds with
      | nil => rfl
      | cons _ _ => cases h0
    exact ⟨z, H, I.kept h3, e1, q0 this⟩
  · cases ds with
    | nil => cases hy
    | cons d es =>
      cases hy
      rw [minDD_py] at h2
      obtain ⟨x, ru, re⟩ := best_end I sm rv rp (fun e m => (okA.1 e m).1) (minDD_mem es d) h1 h2 h3
      exact ⟨x, H, I.kept h3, ru, q d es x rfl re⟩
def dMinDf (l z : D) : Option D := match l with
  | .lst [] => some z
  | .lst (x :: xs) => if bestOk (x :: xs) then some (minDD x xs) else none
  | _ => none
theorem v_minDf {k : Nat} {kp : Pos} (hr : Room k X.A) (hg : Gl X "min") (hm : X.mg "min" = none) (ha : PV X a fa) (hb : PV X b fb)
    (he : starEach [a] X.env = (false, eval a X.env) :: starEach [] X.env := by rfl)
    (he1 : backTo pos (starEach [a] X.env) = (false, eval a X.env) :: backTo pos (starEach [] X.env) := by rfl) (hpl : (backTo pos (starEach [a] X.env)).any (·.1) = false := by rfl)
    (hall : (backToKw pos (keywordEach [⟨some (Str.ofString "default"), b, kp⟩] X.env)).all (·.1.isSome) = true := by rfl) (hnone : (backToKw pos (keywordEach [⟨some (Str.ofString "default"), b, kp⟩] X.env)).any (·.1.isNone) = false := by rfl)
    (hks : (backToKw pos (keywordEach [⟨some (Str.ofString "default"), b, kp⟩] X.env)).filterMap (·.1) = [Str.ofString "default"] := by rfl) :
    PV X (.Call (.Name "min" p) [a] [⟨some (Str.ofString "default"), b, kp⟩] pos) (b2 fa fb dMinDf) := by
  obtain ⟨ta, pa, oa⟩ := ha.ex
  obtain ⟨tb, pb, ob⟩ := hb.ex
  refine ⟨_, pe_callBK (cr_minDf hr) hg hm boot_min (pa_cons pa pa_nil he) (pk_cons pb pk_nil) (he := he1) (hpl := hpl) (hall := hall) (hnone := hnone) (hks := hks), fun G H st env F Q d r e kk => ?_⟩
  obtain ⟨l, e1, e⟩ := Option.bind_eq_some_iff.mp (show (fa env).bind _ = _ from e)
  obtain ⟨z, e2, e3⟩ := Option.bind_eq_some_iff.mp e
  refine oa G H st env F _ _ r e1 fun v G1 H1 x1 r1 => ob G1 H1 st env F _ _ (r.ext x1) e2 fun u G2 H2 x2 r2 => ?_
  unfold dMinDf at e3
  split at e3
  · cases e3
    cases r1 with
    | @lst pp vs _ h1 l1 =>
      exact ⟨G2, pp, vs, [], u, rfl, rfl, SqL.of ((x1.gh.trans x2.hh) _ _ h1), x2.gh, l1.up x2.gg, .inl rfl, fun _ => kk _ G2 H2 (x1.trans x2) r2, fun d es v h => (by cases h)⟩
  · rename_i x xs
    split at e3
    · rename_i ok
      cases e3
      cases r1 with
      | @lst pp vs _ h1 l1 =>
        refine ⟨G2, pp, vs, x :: xs, u, rfl, rfl, SqL.of ((x1.gh.trans x2.hh) _ _ h1), x2.gh, l1.up x2.gg, .inr ok, fun h => (by cases h), fun d es v h rv => ?_⟩
        cases h
        exact kk _ G2 H2 (x1.trans x2) rv
    · cases e3
  · cases e3
end
end VL

set_option Elab.async false
set_option linter.all false
set_option maxRecDepth 100000
/-! VL28: and, or as values, with draws; two clauses. -/
namespace VL
open PySem PySem.Spec PyProof.Rows L2
section
variable {X : Cx} {a b : Expr} {rest : List Expr} {pos : Pos} {fa fb : Mo D}
@[simp] def mAnd2 (f g : Mo D) : Mo D := fun env => (f env).bind fun x => (bOf x.1).bind fun b => if b then g x.2 else some (.bl false, x.2)
@[simp] def mOr2 (f g : Mo D) : Mo D := fun env => (f env).bind fun x => (bOf x.1).bind fun b => if b then some (.bl true, x.2) else g x.2
theorem m_one {op : BoolOp} (h : MV X a fa) : MV X (.BoolOp op [a] pos) fa := by
  obtain ⟨t, p, o⟩ := h.ex
  exact ⟨t, pe_one p, o⟩
theorem m_and (h : MV X a fa) (h' : MV X (.BoolOp .And (b :: rest) pos) fb) : MV X (.BoolOp .And (a :: b :: rest) pos) (mAnd2 fa fb) := by
  obtain ⟨t, p, o⟩ := h.ex
  obtain ⟨t', p', o'⟩ := h'.ex
  refine ⟨_, pe_and p p', fun c G H st env F Q d env' r q e k => ?_⟩
  obtain ⟨⟨x, e1⟩, h1, e⟩ := Option.bind_eq_some_iff.mp (show (fa env).bind _ = _ from e)
  obtain ⟨y, h2, h3⟩ := Option.bind_eq_some_iff.mp e
  obtain rfl := bOf_some h2
  refine o c G H st env F _ _ e1 r q h1 fun v G1 H1 F1 r1 q1 s1 rv => ?_
  cases rv
  refine ⟨y, rfl, ?_⟩
  cases y with
  | true => exact iteT (o' c G1 H1 st e1 F1 _ d env' r1 q1 h3 fun v G2 H2 F2 r2 q2 s2 rv => k v G2 H2 F2 r2 q2 (s1.trans s2) rv)
  | false => cases h3; exact iteF (k _ G1 H1 F1 r1 q1 s1 (.bl false))
theorem m_or (h : MV X a fa) (h' : MV X (.BoolOp .Or (b :: rest) pos) fb) : MV X (.BoolOp .Or (a :: b :: rest) pos) (mOr2 fa fb) := by
  obtain ⟨t, p, o⟩ := h.ex
  obtain ⟨t', p', o'⟩ := h'.ex
  refine ⟨_, pe_or p p', fun c G H st env F Q d env' r q e k => ?_⟩
  obtain ⟨⟨x, e1⟩, h1, e⟩ := Option.bind_eq_some_iff.mp (show (fa env).bind _ = _ from e)
  obtain ⟨y, h2, h3⟩ := Option.bind_eq_some_iff.mp e
  obtain rfl := bOf_some h2
  refine o c G H st env F _ _ e1 r q h1 fun v G1 H1 F1 r1 q1 s1 rv => ?_
  cases rv
  refine ⟨y, rfl, ?_⟩
  cases y with
  | true => cases h3; exact iteT (k _ G1 H1 F1 r1 q1 s1 (.bl true))
  | false => exact iteF (o' c G1 H1 st e1 F1 _ d env' r1 q1 h3 fun v G2 H2 F2 r2 q2 s2 rv => k v G2 H2 F2 r2 q2 (s1.trans s2) rv)
end
section
variable {X : Cx}
instance (i j : Int) : Decidable (CPow i j) := by unfold CPow; infer_instance
def dPow : D → D → Option D
  | .int i, .int j => if CPow i j then some (.int (i ^ j.toNat)) else none
  | _, _ => none
theorem o_pow : OpF X (binaryOp .Pow) dPow := by
  refine ⟨_, op_pow, fun G H x y d e z Q s rx ry q k => ?_⟩
  unfold dPow at q
  split at q
  · split at q
    · rename_i hl
      cases rx; cases ry; cases q
      exact ⟨_, _, rfl, rfl, hl, k _ _ _ (Ex.refl s) (.int _)⟩
    · cases q
  · cases q
end
end VL

set_option Elab.async false
set_option linter.all false
set_option maxRecDepth 100000
/-! TL1: the typed layer: typed data, facts of slots, expressions. -/
namespace TL
open PySem PySem.Spec PyProof.Rows L2 VL
/-- typed data -/
class Ty (α : Type) where
  en : α → D
open Ty (en)
instance : Ty Int := ⟨D.int⟩
instance : Ty Bool := ⟨D.bl⟩
instance : Ty Str := ⟨D.str⟩
instance : Ty D := ⟨fun d => d⟩
instance : Ty Unit := ⟨fun _ => .non⟩
instance {α : Type} [Ty α] : Ty (List α) := ⟨fun xs => .lst (xs.map en)⟩
instance {α β : Type} [Ty α] [Ty β] : Ty (α × β) := ⟨fun p => .tup [en p.1, en p.2]⟩
instance {α : Type} [Ty α] : Ty (Option α) := ⟨fun o => match o with | none => .non | some a => en a⟩
structure T1 (α : Type) where
  a : α
  deriving DecidableEq, Repr
structure T3 (α β γ : Type) where
  a : α
  b : β
  c : γ
  deriving DecidableEq, Repr
structure T4 (α β γ δ : Type) where
  a : α
  b : β
  c : γ
  d : δ
  deriving DecidableEq, Repr
structure T5 (α β γ δ ε : Type) where
  a : α
  b : β
  c : γ
  d : δ
  e : ε
  deriving DecidableEq, Repr
/-- a tuple of any length -/
structure Tup (α : Type) where
  l : List α
  deriving DecidableEq, Repr
/-- a dict; k: keys are tuples -/
structure Dc (κ υ : Type) where
  l : List (κ × υ)
  deriving DecidableEq, Repr
instance {α : Type} [Ty α] : Ty (T1 α) := ⟨fun p => .tup [en p.a]⟩
instance {α β γ : Type} [Ty α] [Ty β] [Ty γ] : Ty (T3 α β γ) := ⟨fun p => .tup [en p.a, en p.b, en p.c]⟩
instance {α β γ δ : Type} [Ty α] [Ty β] [Ty γ] [Ty δ] : Ty (T4 α β γ δ) := ⟨fun p => .tup [en p.a, en p.b, en p.c, en p.d]⟩
instance {α β γ δ ε : Type} [Ty α] [Ty β] [Ty γ] [Ty δ] [Ty ε] : Ty (T5 α β γ δ ε) := ⟨fun p => .tup [en p.a, en p.b, en p.c, en p.d, en p.e]⟩
instance {α : Type} [Ty α] : Ty (Tup α) := ⟨fun p => .tup (p.l.map en)⟩
/-! ### equality -/
class TyEq (α : Type) [Ty α] [DecidableEq α] where
  eq : ∀ a b : α, eqD (en a) (en b) = decide (a = b)
  pl : ∀ a : α, (en a).plain = true
  n : Nat
  dp : ∀ a : α, (en a).dep ≤ n
/-- never None -/
class NonN (α : Type) [Ty α] : Prop where
  nn : ∀ a : α, en a ≠ .non
instance : NonN Int := ⟨fun a h => by cases h⟩
instance : NonN Bool := ⟨fun a h => by cases h⟩
instance : NonN Str := ⟨fun a h => by cases h⟩
instance {α : Type} [Ty α] : NonN (List α) := ⟨fun a h => by cases h⟩
instance {α β : Type} [Ty α] [Ty β] : NonN (α × β) := ⟨fun a h => by cases h⟩
instance {α : Type} [Ty α] : NonN (T1 α) := ⟨fun a h => by cases h⟩
instance {α β γ : Type} [Ty α] [Ty β] [Ty γ] : NonN (T3 α β γ) := ⟨fun a h => by cases h⟩
instance {α β γ δ : Type} [Ty α] [Ty β] [Ty γ] [Ty δ] : NonN (T4 α β γ δ) := ⟨fun a h => by cases h⟩
instance {α β γ δ ε : Type} [Ty α] [Ty β] [Ty γ] [Ty δ] [Ty ε] : NonN (T5 α β γ δ ε) := ⟨fun a h => by cases h⟩
instance {α : Type} [Ty α] : NonN (Tup α) := ⟨fun a h => by cases h⟩
instance : TyEq Int := ⟨fun a b => by show PyData.eqv (.int a) (.int b) = _; simp only [PyData.eqv]; by_cases h : a = b <;> simp [h], fun _ => rfl, 0, fun _ => Nat.le_refl _⟩
instance : TyEq Bool := ⟨fun a b => by cases a <;> cases b <;> rfl, fun _ => rfl, 0, fun _ => Nat.le_refl _⟩
instance : TyEq Str := ⟨fun a b => by show PyData.eqv (.str a) (.str b) = _; simp only [PyData.eqv]; by_cases h : a = b <;> simp [h], fun _ => rfl, 0, fun _ => Nat.le_refl _⟩
theorem plainL_iff : ∀ {xs : List D}, D.plainL xs = true ↔ ∀ x ∈ xs, x.plain = true
  | [] => by simp [D.plainL]
  | x :: xs => by simp [D.plainL, plainL_iff (xs := xs)]
theorem eqL_map {α : Type} [Ty α] [DecidableEq α] [TyEq α] : ∀ xs ys : List α, PyData.eqvAll (D.pyL (xs.map en)) (D.pyL (ys.map en)) = decide (xs = ys)
  | [], [] => by simp [D.pyL, PyData.eqvAll]
  | [], _ :: _ => by simp [D.pyL, PyData.eqvAll]
  | _ :: _, [] => by simp [D.pyL, PyData.eqvAll]
  | x :: xs, y :: ys => by
    have h : PyData.eqv (en x).py (en y).py = decide (x = y) := TyEq.eq x y
    simp only [List.map_cons, D.pyL, PyData.eqvAll, h, eqL_map xs ys, List.cons.injEq, Bool.decide_and]
theorem pl_map {α : Type} [Ty α] [DecidableEq α] [TyEq α] (xs : List α) : D.plainL (xs.map en) = true := plainL_iff.mpr fun x m => by
  obtain ⟨a, _, rfl⟩ := List.mem_map.mp m
  exact TyEq.pl a
theorem dp_map {α : Type} [Ty α] [DecidableEq α] [TyEq α] (xs : List α) : D.depL (xs.map en) ≤ TyEq.n α := D.depL_le.mpr fun x m => by
  obtain ⟨a, _, rfl⟩ := List.mem_map.mp m
  exact TyEq.dp a
instance {α : Type} [Ty α] [DecidableEq α] [TyEq α] : TyEq (List α) where
  eq xs ys := by
    show PyData.eqv (.list _) (.list _) = _
    rw [PyData.eqv]
    exact eqL_map xs ys
  pl xs := pl_map xs
  n := TyEq.n α + 1
  dp xs := by
    show D.depL _ + 1 ≤ _
    have := dp_map xs
    omega
instance {α : Type} [Ty α] [DecidableEq α] [TyEq α] : TyEq (Tup α) where
  eq xs ys := by
    show PyData.eqv (.tuple _) (.tuple _) = _
    rw [PyData.eqv]
    refine (eqL_map xs.l ys.l).trans ?_
    cases xs; cases ys
    simp
  pl xs := pl_map xs.l
  n := TyEq.n α + 1
  dp xs := by
    show D.depL _ + 1 ≤ _
    have := dp_map xs.l
    omega
section
variable {α β γ δ ε : Type} [Ty α] [DecidableEq α] [TyEq α] [Ty β] [DecidableEq β] [TyEq β] [Ty γ] [DecidableEq γ] [TyEq γ] [Ty δ] [DecidableEq δ] [TyEq δ] [Ty ε] [DecidableEq ε] [TyEq ε]
theorem eqv_en (a b : α) : PyData.eqv (en a).py (en b).py = decide (a = b) := TyEq.eq a b
instance : TyEq (T1 α) where
  eq p q := by
    show PyData.eqv (.tuple _) (.tuple _) = _
    cases p; cases q
    simp only [PyData.eqv, D.pyL, PyData.eqvAll, eqv_en, Bool.and_true, T1.mk.injEq]
  pl p := by
    show D.plainL [_] = true
    simp only [D.plainL, TyEq.pl, Bool.and_self]
  n := TyEq.n α + 1
  dp p := by
    show D.depL [_] + 1 ≤ _
    have h1 := TyEq.dp p.a
    simp only [D.depL]
    omega
instance : TyEq (α × β) where
  eq p q := by
    show PyData.eqv (.tuple _) (.tuple _) = _
    cases p; cases q
    simp only [PyData.eqv, D.pyL, PyData.eqvAll, eqv_en, Bool.and_true, Prod.mk.injEq, Bool.decide_and]
  pl p := by
    show D.plainL [_, _] = true
    simp only [D.plainL, TyEq.pl, Bool.and_self]
  n := max (TyEq.n α) (TyEq.n β) + 1
  dp p := by
    show D.depL [_, _] + 1 ≤ _
    have h1 := TyEq.dp p.1
    have h2 := TyEq.dp p.2
    simp only [D.depL]
    omega
instance : TyEq (T3 α β γ) where
  eq p q := by
    show PyData.eqv (.tuple _) (.tuple _) = _
    cases p; cases q
    simp only [PyData.eqv, D.pyL, PyData.eqvAll, eqv_en, Bool.and_true, T3.mk.injEq, Bool.decide_and]
  pl p := by
    show D.plainL [_, _, _] = true
    simp only [D.plainL, TyEq.pl, Bool.and_self]
  n := max (TyEq.n α) (max (TyEq.n β) (TyEq.n γ)) + 1
  dp p := by
    show D.depL [_, _, _] + 1 ≤ _
    have h1 := TyEq.dp p.a
    have h2 := TyEq.dp p.b
    have h3 := TyEq.dp p.c
    simp only [D.depL]
    omega
instance : TyEq (T4 α β γ δ) where
  eq p q := by
    show PyData.eqv (.tuple _) (.tuple _) = _
    cases p; cases q
    simp only [PyData.eqv, D.pyL, PyData.eqvAll, eqv_en, Bool.and_true, T4.mk.injEq, Bool.decide_and]
  pl p := by
    show D.plainL [_, _, _, _] = true
    simp only [D.plainL, TyEq.pl, Bool.and_self]
  n := max (max (TyEq.n α) (TyEq.n δ)) (max (TyEq.n β) (TyEq.n γ)) + 1
  dp p := by
    show D.depL [_, _, _, _] + 1 ≤ _
    have h1 := TyEq.dp p.a
    have h2 := TyEq.dp p.b
    have h3 := TyEq.dp p.c
    have h4 := TyEq.dp p.d
    simp only [D.depL]
    omega
instance : TyEq (T5 α β γ δ ε) where
  eq p q := by
    show PyData.eqv (.tuple _) (.tuple _) = _
    cases p; cases q
    simp only [PyData.eqv, D.pyL, PyData.eqvAll, eqv_en, Bool.and_true, T5.mk.injEq, Bool.decide_and]
  pl p := by
    show D.plainL [_, _, _, _, _] = true
    simp only [D.plainL, TyEq.pl, Bool.and_self]
  n := max (max (TyEq.n α) (max (TyEq.n δ) (TyEq.n ε))) (max (TyEq.n β) (TyEq.n γ)) + 1
  dp p := by
    show D.depL [_, _, _, _, _] + 1 ≤ _
    have h1 := TyEq.dp p.a
    have h2 := TyEq.dp p.b
    have h3 := TyEq.dp p.c
    have h4 := TyEq.dp p.d
    have h5 := TyEq.dp p.e
    simp only [D.depL]
    omega
theorem py_non {d : D} (p : d.plain = true) (h : d ≠ .non) : PyData.eqv .none d.py = false ∧ PyData.eqv d.py .none = false := by
  cases d with
  | non => exact absurd rfl h
  | dic _ _ => cases p
  | _ => exact ⟨by simp [D.py, PyData.eqv], by simp [D.py, PyData.eqv]⟩
instance [NonN α] : TyEq (Option α) where
  eq p q := by
    cases p with
    | none => cases q with
      | none => rfl
      | some b => exact ((py_non (TyEq.pl b) (NonN.nn b)).1).trans (by simp)
    | some a => cases q with
      | none => exact ((py_non (TyEq.pl a) (NonN.nn a)).2).trans (by simp)
      | some b => exact (TyEq.eq a b).trans (by simp)
  pl p := by
    cases p with
    | none => rfl
    | some a => exact TyEq.pl a
  n := TyEq.n α
  dp p := by
    cases p with
    | none => exact Nat.zero_le _
    | some a => exact TyEq.dp a
theorem cmpOk_en (a b : α) (h : TyEq.n α ≤ 40) : cmpOk (en a) (en b) = true := by
  unfold cmpOk
  rw [TyEq.pl a, TyEq.pl b, D.dep_py, D.dep_py]
  have h1 := TyEq.dp a
  simp only [Bool.and_self, Bool.true_and, decide_eq_true_eq]
  omega
theorem dEq_en (a b : α) (h : TyEq.n α ≤ 40) : dEq (en a) (en b) = some (.bl (decide (a = b))) := by
  unfold dEq
  rw [if_pos (cmpOk_en a b h), TyEq.eq]
theorem dNe_en (a b : α) (h : TyEq.n α ≤ 40) : dNe (en a) (en b) = some (.bl (!decide (a = b))) := by
  unfold dNe
  rw [if_pos (cmpOk_en a b h), TyEq.eq]
theorem inD_en (a : α) (xs : List α) : inD (en a) (xs.map en) = decide (a ∈ xs) := by
  unfold inD
  rw [Bool.eq_iff_iff, List.any_eq_true, decide_eq_true_eq]
  constructor
  · rintro ⟨x, m, e⟩
    obtain ⟨b, m', rfl⟩ := List.mem_map.mp m
    rw [TyEq.eq, decide_eq_true_eq] at e
    rw [← e]; exact m'
  · intro m
    exact ⟨en a, List.mem_map.mpr ⟨a, m, rfl⟩, by rw [TyEq.eq]; simp⟩
theorem inOk_en (a : α) (xs : List α) (h : TyEq.n α ≤ 40) : inOk (en a) (xs.map en) = true := by
  unfold inOk
  rw [TyEq.pl a, pl_map xs, D.dep_py, D.depL_py]
  have h1 := TyEq.dp a
  simp only [Bool.and_self, Bool.true_and, decide_eq_true_eq]
  omega
end
/-! ### order -/
class TyOrd (α : Type) [Ty α] [DecidableEq α] extends TyEq α where
  lt : α → α → Bool
  ltOk : ∀ a b : α, ltD (en a) (en b) = lt a b
  al : ∀ a b : α, PySem.W.alike (en a).py (en b).py = true
  ks : (∀ a : α, (en a).key = true) ∨ (∀ a : α, (en a).noKey = true)
  nn : ∀ a : α, en a ≠ .non
instance : TyOrd Int where
  lt a b := decide (a < b)
  ltOk a b := PySem.W.dataLt_int a b
  al a b := by show PySem.W.alike (.int a) (.int b) = true; simp [PySem.W.alike]
  ks := .inr fun _ => rfl
  nn a h := by cases h
instance : TyOrd Str where
  lt a b := decide (a.cps.toList < b.cps.toList)
  ltOk a b := PySem.W.dataLt_str a b
  al a b := by show PySem.W.alike (.str a) (.str b) = true; simp [PySem.W.alike]
  ks := .inr fun _ => rfl
  nn a h := by cases h
section
variable {α β γ δ : Type} [Ty α] [DecidableEq α] [TyOrd α] [Ty β] [DecidableEq β] [TyOrd β] [Ty γ] [DecidableEq γ] [TyOrd γ] [Ty δ] [DecidableEq δ] [TyOrd δ]
/-- x < y, if the rest y else -/
def ltThen (a b : α) (r : Bool) : Bool := if a = b then r else TyOrd.lt a b
theorem lex_cons (a b : α) (xs ys : List PyData) : PyProof.Rows.lexLt PyProof.Rows.itemOrd (PySem.W.keyToksAll ((en a).py :: xs)) (PySem.W.keyToksAll ((en b).py :: ys)) = ltThen a b (PyProof.Rows.lexLt PyProof.Rows.itemOrd (PySem.W.keyToksAll xs) (PySem.W.keyToksAll ys)) := by
  rw [PySem.W.dataLt_cons (TyOrd.al a b), eqv_en]
  unfold ltThen
  by_cases c : a = b
  · rw [if_pos (decide_eq_true c), if_pos c]
  · rw [if_neg (by simpa using c), if_neg c]
    exact TyOrd.ltOk a b
theorem lex_nil : PyProof.Rows.lexLt PyProof.Rows.itemOrd (PySem.W.keyToksAll []) (PySem.W.keyToksAll []) = false := rfl
instance : TyOrd (T1 α) where
  lt p q := ltThen p.a q.a false
  ltOk p q := by
    show PySem.W.dataLt (.tuple [_]) (.tuple [_]) = _
    rw [PySem.W.dataLt_tuple, lex_cons, lex_nil]
  al p q := by
    show PySem.W.alike (.tuple [(en p.a).py]) (.tuple [(en q.a).py]) = true
    simp [PySem.W.alike, PySem.W.alikeAll, TyOrd.al]
  ks := .inl fun _ => rfl
  nn p h := by cases h
instance : TyOrd (α × β) where
  lt p q := ltThen p.1 q.1 (ltThen p.2 q.2 false)
  ltOk p q := by
    show PySem.W.dataLt (.tuple [_, _]) (.tuple [_, _]) = _
    rw [PySem.W.dataLt_tuple, lex_cons, lex_cons, lex_nil]
  al p q := by
    show PySem.W.alike (.tuple [(en p.1).py, (en p.2).py]) (.tuple [(en q.1).py, (en q.2).py]) = true
    simp [PySem.W.alike, PySem.W.alikeAll, TyOrd.al]
  ks := .inl fun _ => rfl
  nn p h := by cases h
instance : TyOrd (T3 α β γ) where
  lt p q := ltThen p.a q.a (ltThen p.b q.b (ltThen p.c q.c false))
  ltOk p q := by
    show PySem.W.dataLt (.tuple [_, _, _]) (.tuple [_, _, _]) = _
    rw [PySem.W.dataLt_tuple, lex_cons, lex_cons, lex_cons, lex_nil]
  al p q := by
    show PySem.W.alike (.tuple [(en p.a).py, (en p.b).py, (en p.c).py]) (.tuple [(en q.a).py, (en q.b).py, (en q.c).py]) = true
    simp [PySem.W.alike, PySem.W.alikeAll, TyOrd.al]
  ks := .inl fun _ => rfl
  nn p h := by cases h
instance : TyOrd (T4 α β γ δ) where
  lt p q := ltThen p.a q.a (ltThen p.b q.b (ltThen p.c q.c (ltThen p.d q.d false)))
  ltOk p q := by
    show PySem.W.dataLt (.tuple [_, _, _, _]) (.tuple [_, _, _, _]) = _
    rw [PySem.W.dataLt_tuple, lex_cons, lex_cons, lex_cons, lex_cons, lex_nil]
  al p q := by
    show PySem.W.alike (.tuple [(en p.a).py, (en p.b).py, (en p.c).py, (en p.d).py]) (.tuple [(en q.a).py, (en q.b).py, (en q.c).py, (en q.d).py]) = true
    simp [PySem.W.alike, PySem.W.alikeAll, TyOrd.al]
  ks := .inl fun _ => rfl
  nn p h := by cases h
def ltL : List α → List α → Bool
  | [], [] => false
  | [], _ :: _ => true
  | _ :: _, [] => false
  | x :: xs, y :: ys => ltThen x y (ltL xs ys)
theorem lex_map : ∀ xs ys : List α, PyProof.Rows.lexLt PyProof.Rows.itemOrd (PySem.W.keyToksAll (D.pyL (xs.map en))) (PySem.W.keyToksAll (D.pyL (ys.map en))) = ltL xs ys
  | [], [] => rfl
  | [], _ :: _ => rfl
  | _ :: _, [] => rfl
  | x :: xs, y :: ys => by
    show PyProof.Rows.lexLt PyProof.Rows.itemOrd (PySem.W.keyToksAll ((en x).py :: D.pyL (xs.map en))) (PySem.W.keyToksAll ((en y).py :: D.pyL (ys.map en))) = _
    rw [lex_cons, lex_map xs ys]; rfl
theorem al_map : ∀ xs ys : List α, PySem.W.alikeAll (D.pyL (xs.map en)) (D.pyL (ys.map en)) = true
  | [], [] => by simp [D.pyL, PySem.W.alikeAll]
  | [], _ :: _ => by simp [D.pyL, PySem.W.alikeAll]
  | _ :: _, [] => by simp [D.pyL, PySem.W.alikeAll]
  | x :: xs, y :: ys => by
    have := al_map xs ys
    simp only [List.map_cons, D.pyL, PySem.W.alikeAll, TyOrd.al, this, Bool.and_self]
instance : TyOrd (List α) where
  lt := ltL
  ltOk p q := by
    show PySem.W.dataLt (.list _) (.list _) = _
    rw [PySem.W.dataLt_list]
    exact lex_map p q
  al p q := by
    show PySem.W.alike (.list _) (.list _) = true
    rw [PySem.W.alike]
    exact al_map p q
  ks := .inr fun _ => rfl
  nn p h := by cases h
/-! sorted, min, max -/
def leT (a b : α) : Bool := !TyOrd.lt b a
theorem leT_eq (a b : α) : leD (en a) (en b) = leT a b := by
  rw [leD_eq, TyOrd.ltOk]; rfl
theorem leT_trans (a b c : α) (h : leT a b = true) (k : leT b c = true) : leT a c = true := by
  rw [← leT_eq] at h k ⊢
  exact leD_tot.trans _ _ _ h k
theorem leT_total (a b : α) : leT a b = true ∨ leT b a = true := by
  rw [← leT_eq, ← leT_eq]
  exact leD_tot.total _ _
def sortT (xs : List α) : List α := xs.mergeSort leT
theorem sortT_perm (xs : List α) : (sortT xs).Perm xs := List.mergeSort_perm _ _
theorem sortT_sorted (xs : List α) : (sortT xs).Pairwise fun a b => leT a b = true := List.pairwise_mergeSort leT_trans (fun a b => by rw [Bool.or_eq_true]; exact leT_total a b) xs
theorem alikeL_en (xs : List α) (h : TyEq.n α ≤ 40) : alikeL (xs.map en) = true := by
  unfold alikeL
  rw [List.all_eq_true]
  intro d m
  obtain ⟨a, _, rfl⟩ := List.mem_map.mp m
  simp only [Bool.and_eq_true, decide_eq_true_eq]
  refine ⟨⟨TyEq.pl a, Nat.le_trans (TyEq.dp a) h⟩, ?_⟩
  rw [List.all_eq_true]
  intro e m'
  obtain ⟨b, _, rfl⟩ := List.mem_map.mp m'
  exact TyOrd.al a b
theorem sortOk_en (xs : List α) (h : TyEq.n α ≤ 40) (hl : xs.length ≤ sizeLine) : sortOk (xs.map en) = true := by
  unfold sortOk
  rw [alikeL_en xs h, List.length_map, Bool.true_and, Bool.and_eq_true, Bool.or_eq_true]
  refine ⟨?_, decide_eq_true hl⟩
  rcases (TyOrd.ks : (∀ a : α, (en a).key = true) ∨ (∀ a : α, (en a).noKey = true)) with k | k
  · refine .inl (List.all_eq_true.mpr fun d m => ?_)
    obtain ⟨a, _, rfl⟩ := List.mem_map.mp m
    exact k a
  · refine .inr (List.all_eq_true.mpr fun d m => ?_)
    obtain ⟨a, _, rfl⟩ := List.mem_map.mp m
    exact k a
theorem sortD_en (xs : List α) : sortD (xs.map en) = (sortT xs).map en := by
  unfold sortD sortT
  rw [List.map_mergeSort (s := leD)]
  intro a _ b _
  exact (leT_eq a b).symm
theorem bestOk_en (xs : List α) (h : TyEq.n α ≤ 40) : bestOk (xs.map en) = true := by
  unfold bestOk
  rw [alikeL_en xs h, Bool.true_and, List.all_eq_true]
  intro d m
  obtain ⟨a, _, rfl⟩ := List.mem_map.mp m
  have := TyOrd.nn a
  split
  · rename_i e; exact absurd e this
  · rfl
def minT1 (x : α) (xs : List α) : α := xs.foldl (fun a y => if TyOrd.lt y a = true then y else a) x
def maxT1 (x : α) (xs : List α) : α := xs.foldl (fun a y => if TyOrd.lt a y = true then y else a) x
theorem minDD_en : ∀ (xs : List α) (x : α), minDD (en x) (xs.map en) = en (minT1 x xs)
  | [], x => rfl
  | y :: ys, x => by
    show minDD (if ltD (en y) (en x) = true then en y else en x) (ys.map en) = _
    have : (if ltD (en y) (en x) = true then en y else en x) = en (if TyOrd.lt y x = true then y else x) := by
      rw [TyOrd.ltOk]; split <;> rfl
    rw [this, minDD_en ys]; rfl
theorem maxDD_en : ∀ (xs : List α) (x : α), maxDD (en x) (xs.map en) = en (maxT1 x xs)
  | [], x => rfl
  | y :: ys, x => by
    show maxDD (if ltD (en x) (en y) = true then en y else en x) (ys.map en) = _
    have : (if ltD (en x) (en y) = true then en y else en x) = en (if TyOrd.lt x y = true then y else x) := by
      rw [TyOrd.ltOk]; split <;> rfl
    rw [this, maxDD_en ys]; rfl
/-- min, max of a list -/
def minT : List α → Option α
  | [] => none
  | x :: xs => some (minT1 x xs)
def maxT : List α → Option α
  | [] => none
  | x :: xs => some (maxT1 x xs)
theorem ltT_irrefl (a : α) : TyOrd.lt a a = false := by rw [← TyOrd.ltOk]; exact ltD_irrefl _
theorem minT1_mem : ∀ (xs : List α) (x : α), minT1 x xs ∈ x :: xs
  | [], x => List.mem_cons_self ..
  | y :: ys, x => by
    have ih := minT1_mem ys (if TyOrd.lt y x = true then y else x)
    show minT1 (if TyOrd.lt y x = true then y else x) ys ∈ _
    rcases List.mem_cons.mp ih with h | h
    · rw [h]; split <;> simp
    · simp [h]
theorem maxT1_mem : ∀ (xs : List α) (x : α), maxT1 x xs ∈ x :: xs
  | [], x => List.mem_cons_self ..
  | y :: ys, x => by
    have ih := maxT1_mem ys (if TyOrd.lt x y = true then y else x)
    show maxT1 (if TyOrd.lt x y = true then y else x) ys ∈ _
    rcases List.mem_cons.mp ih with h | h
    · rw [h]; split <;> simp
    · simp [h]
theorem minT1_le (xs : List α) (x : α) : ∀ y ∈ x :: xs, leT (minT1 x xs) y = true := by
  obtain ⟨k1, k2⟩ := minDD_le (xs.map en) (en x)
  rw [minDD_en] at k1 k2
  intro y hy
  rw [← leT_eq, leD_eq]
  rcases List.mem_cons.mp hy with rfl | hy
  · rw [k1]; rfl
  · rw [k2 _ (List.mem_map.mpr ⟨y, hy, rfl⟩)]; rfl
theorem maxT1_ge (xs : List α) (x : α) : ∀ y ∈ x :: xs, leT y (maxT1 x xs) = true := by
  obtain ⟨k1, k2⟩ := maxDD_ge (xs.map en) (en x)
  rw [maxDD_en] at k1 k2
  intro y hy
  rw [← leT_eq, leD_eq]
  rcases List.mem_cons.mp hy with rfl | hy
  · rw [k1]; rfl
  · rw [k2 _ (List.mem_map.mpr ⟨y, hy, rfl⟩)]; rfl
theorem minT_some {xs : List α} {m : α} (h : minT xs = some m) : m ∈ xs ∧ ∀ y ∈ xs, leT m y = true := by
  cases xs with
  | nil => cases h
  | cons x xs => cases h; exact ⟨minT1_mem xs x, minT1_le xs x⟩
theorem maxT_some {xs : List α} {m : α} (h : maxT xs = some m) : m ∈ xs ∧ ∀ y ∈ xs, leT y m = true := by
  cases xs with
  | nil => cases h
  | cons x xs => cases h; exact ⟨maxT1_mem xs x, maxT1_ge xs x⟩
theorem minT_ne {xs : List α} (h : xs ≠ []) : ∃ m, minT xs = some m := by
  cases xs with
  | nil => exact absurd rfl h
  | cons x xs => exact ⟨_, rfl⟩
theorem maxT_ne {xs : List α} (h : xs ≠ []) : ∃ m, maxT xs = some m := by
  cases xs with
  | nil => exact absurd rfl h
  | cons x xs => exact ⟨_, rfl⟩
theorem dMinA_en {xs : List α} (h : TyEq.n α ≤ 40) {m : α} (e : minT xs = some m) : dMinA [.lst (xs.map en)] = some (en m) := by
  cases xs with
  | nil => cases e
  | cons x xs =>
    cases e
    refine (if_pos (bestOk_en (x :: xs) h)).trans ?_
    rw [minDD_en]
theorem dMaxA_en {xs : List α} (h : TyEq.n α ≤ 40) {m : α} (e : maxT xs = some m) : dMaxA [.lst (xs.map en)] = some (en m) := by
  cases xs with
  | nil => cases e
  | cons x xs =>
    cases e
    refine (if_pos (bestOk_en (x :: xs) h)).trans ?_
    rw [maxDD_en]
theorem dMinA_enT {xs : List α} (h : TyEq.n α ≤ 40) {m : α} (e : minT xs = some m) : dMinA [.tup (xs.map en)] = some (en m) := by
  cases xs with
  | nil => cases e
  | cons x xs =>
    cases e
    refine (if_pos (bestOk_en (x :: xs) h)).trans ?_
    rw [minDD_en]
theorem dMaxA_enT {xs : List α} (h : TyEq.n α ≤ 40) {m : α} (e : maxT xs = some m) : dMaxA [.tup (xs.map en)] = some (en m) := by
  cases xs with
  | nil => cases e
  | cons x xs =>
    cases e
    refine (if_pos (bestOk_en (x :: xs) h)).trans ?_
    rw [maxDD_en]
end
@[simp] theorem leT_int (a b : Int) : leT a b = decide (a ≤ b) := by
  show (!decide (b < a)) = _
  by_cases h : a ≤ b
  · rw [decide_eq_true h, decide_eq_false (by omega)]; rfl
  · rw [decide_eq_false h, decide_eq_true (by omega)]; rfl
end TL

set_option Elab.async false
set_option linter.all false
set_option maxRecDepth 100000
/-! TL2: what is known of the slots; expressions. -/
namespace TL
open PySem PySem.Spec PyProof.Rows L2 VL
open Ty (en)
abbrev Fs := List (Option S)
def Sat (φ : Fs) (env : VL.Env) : Prop := env.length = φ.length ∧ ∀ (i : Nat) (s : S), φ[i]? = some (some s) → env[i]? = some (some s)
theorem Sat.set {φ : Fs} {env : VL.Env} (h : Sat φ env) (i : Nat) (s : S) : Sat (φ.set i (some s)) (env.set i (some s)) := by
  refine ⟨by rw [List.length_set, List.length_set, h.1], fun j t e => ?_⟩
  rcases get_set e with ⟨rfl, hl, q⟩ | ⟨n, q⟩
  · cases q
    rw [List.getElem?_set_self (by rw [h.1]; exact hl)]
  · rw [List.getElem?_set_ne (by omega)]
    exact h.2 j t q
theorem Sat.drop {φ : Fs} {env : VL.Env} (h : Sat φ env) (i : Nat) (x : Option S) : Sat (φ.set i none) (env.set i x) := by
  refine ⟨by rw [List.length_set, List.length_set, h.1], fun j t e => ?_⟩
  rcases get_set e with ⟨rfl, hl, q⟩ | ⟨n, q⟩
  · cases q
  · rw [List.getElem?_set_ne (by omega)]
    exact h.2 j t q
def wipeF (φ : Fs) : List Nat → Fs
  | [] => φ
  | v :: vs => (wipeF φ vs).set v none
theorem Sat.wipe {φ : Fs} {env : VL.Env} (h : Sat φ env) : ∀ vs : List Nat, Sat (wipeF φ vs) (wipeE env vs)
  | [] => h
  | v :: vs => (Sat.wipe h vs).drop v none
/-- what is less known -/
inductive Le : Fs → Fs → Prop
  | nil : Le [] []
  | n {φ ψ : Fs} {x : Option S} : Le φ ψ → Le (x :: φ) (none :: ψ)
  | s {φ ψ : Fs} {x : Option S} : Le φ ψ → Le (x :: φ) (x :: ψ)
theorem Le.len : ∀ {φ ψ : Fs}, Le φ ψ → φ.length = ψ.length
  | _, _, .nil => rfl
  | _, _, .n h => by rw [List.length_cons, List.length_cons, h.len]
  | _, _, .s h => by rw [List.length_cons, List.length_cons, h.len]
theorem Le.get : ∀ {φ ψ : Fs}, Le φ ψ → ∀ (i : Nat) (t : S), ψ[i]? = some (some t) → φ[i]? = some (some t)
  | _, _, .nil, i  , t, e => by simp at e
  | _, _, .n h, 0  , t, e => by simp at e
  | _, _, .n h, i + 1  , t, e => by
    rw [List.getElem?_cons_succ] at e ⊢
    exact Le.get h i t e
  | _, _, .s h, 0  , t, e => e
  | _, _, .s h, i + 1  , t, e => by
    rw [List.getElem?_cons_succ] at e ⊢
    exact Le.get h i t e
theorem Le.sat {φ ψ : Fs} (h : Le φ ψ) {env : VL.Env} (k : Sat φ env) : Sat ψ env := ⟨k.1.trans h.len, fun i t e => k.2 i t (h.get i t e)⟩
theorem Le.refl : ∀ φ : Fs, Le φ φ
  | [] => .nil
  | _ :: φ => .s (Le.refl φ)
theorem Sat.fz {φ : Fs} {env : VL.Env} (h : Sat φ env) {i : Nat} {d : D} (e : φ[i]? = some (some (.fz d))) : getF env i = some d := by
  unfold getF
  rw [h.2 i _ e]
theorem Sat.gs {φ : Fs} {env : VL.Env} (h : Sat φ env) {i : Nat} {s : S} (e : φ[i]? = some (some s)) : getS env i = some s := by
  unfold getS
  rw [h.2 i _ e]
theorem Sat.gw {φ : Fs} {env : VL.Env} (h : Sat φ env) {i : Nat} {s : S} {d : D} (e : φ[i]? = some (some s)) (k : frS s = some d) : getW env i = some d := by
  unfold getW
  rw [h.2 i _ e]
  exact k
/-! ### what is owned -/
def olE {α : Type} [Ty α] (xs : List α) : S := .ol ((xs.map en).map S.fz)
def fzE {α : Type} [Ty α] (a : α) : S := .fz (en a)
@[simp] theorem frS_olE {α : Type} [Ty α] (xs : List α) : frS (olE xs) = some (en xs) := frS_ol _
@[simp] theorem frS_fzE {α : Type} [Ty α] (a : α) : frS (fzE a) = some (en a) := rfl
@[simp] theorem olOf_olE {α : Type} [Ty α] (xs : List α) : olOf (olE xs) = some (xs.map en) := olOf_ol _
/-! ### judgements -/
/-- f is worth R v -/
def GJ {T τ : Type} (φ : Fs) (R : τ → T) (f : VL.Env → Option T) (v : τ) : Prop := ∀ env, Sat φ env → f env = some (R v)
/-- f is worth R of what o is, if it is -/
def GO {T τ : Type} (φ : Fs) (R : τ → T) (f : VL.Env → Option T) (o : Option τ) : Prop := ∀ env, Sat φ env → ∀ v, o = some v → f env = some (R v)
abbrev EV {α : Type} [Ty α] (φ : Fs) (f : VL.Env → Option D) (v : α) : Prop := GJ φ en f v
abbrev EO {α : Type} [Ty α] (φ : Fs) (f : VL.Env → Option D) (o : Option α) : Prop := GO φ en f o
abbrev EB (φ : Fs) (f : VL.Env → Option Bool) (b : Bool) : Prop := GJ φ (fun b => b) f b
abbrev EBo (φ : Fs) (f : VL.Env → Option Bool) (o : Option Bool) : Prop := GO φ (fun b => b) f o
abbrev EL {α : Type} [Ty α] (φ : Fs) (f : VL.Env → Option (List D)) (xs : List α) : Prop := GJ φ (List.map en) f xs
abbrev ELo {α : Type} [Ty α] (φ : Fs) (f : VL.Env → Option (List D)) (o : Option (List α)) : Prop := GO φ (List.map en) f o
abbrev EA (φ : Fs) (f : VL.Env → Option (List D)) (ds : List D) : Prop := GJ φ (fun ds => ds) f ds
theorem GJ.o {T τ : Type} {φ : Fs} {R : τ → T} {f : VL.Env → Option T} {v : τ} (h : GJ φ R f v) : GO φ R f (some v) := fun env s w e => by cases e; exact h env s
theorem g_bind {T τ T' τ' : Type} {φ : Fs} {R : τ → T} {R' : τ' → T'} {f : VL.Env → Option T} {g : VL.Env → Option T'} {o : Option τ'} {k : τ' → Option τ} (hg : GO φ R' g o) (h : ∀ v, GJ φ R' g v → GO φ R f (k v)) : GO φ R f (o.bind k) := fun env s v e => by
  obtain ⟨x, e1, e2⟩ := Option.bind_eq_some_iff.mp e
  exact h x (fun env' s' => hg env' s' x e1) env s v e2
section
variable {α β γ δ ε ρ : Type} [Ty α] [Ty β] [Ty γ] [Ty δ] [Ty ε] [Ty ρ]
variable {φ : Fs} {f g h : VL.Env → Option D} {a : α} {b : β} {c : γ}
/-- as data; in an option -/
theorem ev_d (h : EV φ f a) : EV φ f (en a : D) := h
theorem ev_s (h : EV φ f a) : EV φ f (some a : Option α) := h
theorem ev_nn (h : EV φ f ()) : EV φ f (none : Option α) := h
theorem ev_eq {a' : β} (h : EV φ f a) (e : en a = en a') : EV φ f a' := fun env s => by rw [h env s, e]
theorem eo_d {o : Option α} (h : EO φ f o) : EO φ f (o.map (en : α → D)) := fun env s v e => by
  obtain ⟨x, e1, rfl⟩ := Option.map_eq_some_iff.mp e
  exact h env s x e1
/-- from data -/
class De (α : Type) [Ty α] where
  de : D → Option α
  ok : ∀ {d a}, de d = some a → d = en a
theorem eo_de [De α] {d : D} (h : EV φ f d) : EO φ f (De.de d : Option α) := fun env s v e => by rw [h env s]; exact congrArg some (De.ok e)
theorem ev_n (i : Nat) (e : φ[i]? = some (some (.fz (en a))) := by rfl) : EV φ (dN i) a := fun env s => s.fz e
theorem ev_w (i : Nat) {s : S} (e : φ[i]? = some (some s)) (k : frS s = some (en a)) : EV φ (dW i) a := fun env sa => sa.gw e k
theorem ev_wl (i : Nat) {xs : List α} (e : φ[i]? = some (some (olE xs)) := by rfl) : EV φ (dW i) xs := ev_w i e (frS_olE xs)
theorem ev_k {d : D} (e : d = en a := by rfl) : EV φ (dK d) a := fun env s => by rw [← e]
/-! binary -/
def O2 (g : D → D → Option D) (a : α) (b : β) (c : γ) : Prop := g (en a) (en b) = some (en c)
def O2o (g : D → D → Option D) (a : α) (b : β) (o : Option γ) : Prop := ∀ c, o = some c → g (en a) (en b) = some (en c)
theorem ev_2 {p : D → D → Option D} (hf : EV φ f a) (hg : EV φ g b) (k : O2 p a b c) : EV φ (b2 f g p) c := fun env s => by
  simp only [b2, hf env s, hg env s, Option.bind_some]
  exact k
theorem eo_2 {p : D → D → Option D} {o : Option γ} (hf : EV φ f a) (hg : EV φ g b) (k : O2o p a b o) : EO φ (b2 f g p) o := fun env s v e => by
  simp only [b2, hf env s, hg env s, Option.bind_some]
  exact k v e
theorem ev_ch {p q : D → D → Option D} {x y : Bool} (hf : EV φ f a) (hg : EV φ g b) (hh : EV φ h c) (k : O2 p a b x) (k' : O2 q b c y) : EV φ (vChain f g h p q) (x && y) := fun env s => by
  have k1 : p (en a) (en b) = some (.bl x) := k
  have k2 : q (en b) (en c) = some (.bl y) := k'
  simp only [vChain, hf env s, hg env s, hh env s, Option.bind_some, k1, bOf_bl, k2]
  cases x <;> rfl
end
section
variable {φ : Fs} {f g h : VL.Env → Option D} {a b : Int}
theorem op_add (a b : Int) : O2 dAdd a b (a + b) := rfl
theorem op_sub (a b : Int) : O2 dSub a b (a - b) := rfl
def mulT (a b : Int) : Option Int := if a.natAbs < 2 ^ 64 ∨ b.natAbs < 2 ^ 64 then some (a * b) else none
def divT (a b : Int) : Option Int := if 0 < b ∧ b.natAbs.log2 < 9000 then some (a / b) else none
def modT (a b : Int) : Option Int := if 0 < b then some (a % b) else none
theorem op_mul (a b : Int) : O2o dMul a b (mulT a b) := fun c e => by
  unfold mulT at e
  split at e
  · rename_i h; cases e; exact if_pos h
  · cases e
theorem op_div (a b : Int) : O2o dDiv a b (divT a b) := fun c e => by
  unfold divT at e
  split at e
  · rename_i h; cases e; exact if_pos h
  · cases e
theorem op_mod (a b : Int) : O2o dMod a b (modT a b) := fun c e => by
  unfold modT at e
  split at e
  · rename_i h; cases e; exact if_pos h
  · cases e
theorem op_lt (a b : Int) : O2 dLt a b (decide (a < b)) := rfl
theorem op_le (a b : Int) : O2 dLe a b (decide (a ≤ b)) := rfl
theorem op_gt (a b : Int) : O2 dGt a b (decide (b < a)) := rfl
theorem op_ge (a b : Int) : O2 dGe a b (decide (b ≤ a)) := rfl
theorem ev_neg (h : EV φ f a) : EV φ (dNeg1 f) (-a) := fun env s => by simp only [dNeg1, h env s, Option.bind_some]; rfl
end
section
variable {α β γ δ ε ρ : Type} [Ty α] [Ty β] [Ty γ] [Ty δ] [Ty ε] [Ty ρ]
variable {φ : Fs} {f g h : VL.Env → Option D} {a : α} {b : β} {c : γ}
def addL (xs ys : List α) : Option (List α) := if xs.length + ys.length ≤ sizeLine then some (xs ++ ys) else none
theorem op_addL (xs ys : List α) : O2o dAdd xs ys (addL xs ys) := fun c e => by
  unfold addL at e
  split at e
  · rename_i h
    cases e
    show (if (xs.map en).length + (ys.map en).length ≤ sizeLine then _ else _) = _
    rw [List.length_map, List.length_map, if_pos h, ← List.map_append]; rfl
  · cases e
def addU (xs ys : Tup α) : Option (Tup α) := if xs.l.length + ys.l.length ≤ sizeLine then some ⟨xs.l ++ ys.l⟩ else none
theorem op_addU (xs ys : Tup α) : O2o dAdd xs ys (addU xs ys) := fun c e => by
  unfold addU at e
  split at e
  · rename_i h
    cases e
    show (if (xs.l.map en).length + (ys.l.map en).length ≤ sizeLine then _ else _) = _
    rw [List.length_map, List.length_map, if_pos h, ← List.map_append]; rfl
  · cases e
def mulL (xs : List α) (k : Int) : Option (List α) := if k < 2 ^ 62 ∧ -(2 ^ 62) < k ∧ xs.length * k.toNat ≤ sizeLine then some (List.replicate k.toNat xs).flatten else none
theorem op_mulL (xs : List α) (k : Int) : O2o dMul xs k (mulL xs k) := fun c e => by
  unfold mulL at e
  split at e
  · rename_i h
    cases e
    show (if k < 2 ^ 62 ∧ -(2 ^ 62) < k ∧ (xs.map en).length * k.toNat ≤ sizeLine then _ else _) = _
    rw [List.length_map, if_pos h]
    show some (D.lst _) = some (D.lst _)
    rw [List.map_flatten, List.map_replicate]
  · cases e
theorem atI_en (xs : List α) (i : Int) (x : α) (e : atI xs i = some x) : atI (xs.map en) i = some (en x) := by
  unfold atI at e ⊢
  rw [List.length_map]
  cases h : ixN xs.length i with
  | none => rw [h] at e; cases e
  | some j =>
    rw [h] at e
    have e : xs[j]? = some x := e
    show (xs.map en)[j]? = _
    rw [List.getElem?_map, e]; rfl
theorem op_ix (xs : List α) (i : Int) : O2o dIx xs i (atI xs i) := fun c e => atI_en xs i c e
theorem op_ixU (xs : Tup α) (i : Int) : O2o dIx xs i (atI xs.l i) := fun c e => atI_en xs.l i c e
theorem op_ixD (d : D) (i : Int) : O2o dIx d i (dIx d (.int i) : Option D) := fun c e => e
theorem op_10 (p : T1 α) : O2 dIx p (0 : Int) p.a := rfl
theorem op_20 (p : α × β) : O2 dIx p (0 : Int) p.1 := rfl
theorem op_21 (p : α × β) : O2 dIx p (1 : Int) p.2 := rfl
theorem op_30 (p : T3 α β γ) : O2 dIx p (0 : Int) p.a := rfl
theorem op_31 (p : T3 α β γ) : O2 dIx p (1 : Int) p.b := rfl
theorem op_32 (p : T3 α β γ) : O2 dIx p (2 : Int) p.c := rfl
theorem op_40 (p : T4 α β γ δ) : O2 dIx p (0 : Int) p.a := rfl
theorem op_41 (p : T4 α β γ δ) : O2 dIx p (1 : Int) p.b := rfl
theorem op_42 (p : T4 α β γ δ) : O2 dIx p (2 : Int) p.c := rfl
theorem op_43 (p : T4 α β γ δ) : O2 dIx p (3 : Int) p.d := rfl
theorem op_50 (p : T5 α β γ δ ε) : O2 dIx p (0 : Int) p.a := rfl
theorem op_51 (p : T5 α β γ δ ε) : O2 dIx p (1 : Int) p.b := rfl
theorem op_52 (p : T5 α β γ δ ε) : O2 dIx p (2 : Int) p.c := rfl
theorem op_53 (p : T5 α β γ δ ε) : O2 dIx p (3 : Int) p.d := rfl
theorem op_54 (p : T5 α β γ δ ε) : O2 dIx p (4 : Int) p.e := rfl
/-- a pair of two alike, at a number that is worked out -/
def atP (p : α × α) (i : Int) : Option α := atI [p.1, p.2] i
theorem op_ixP (p : α × α) (i : Int) : O2o dIx p i (atP p i) := fun c e => atI_en [p.1, p.2] i c e
def atP3 (p : T3 α α α) (i : Int) : Option α := atI [p.a, p.b, p.c] i
theorem op_ixP3 (p : T3 α α α) (i : Int) : O2o dIx p i (atP3 p i) := fun c e => atI_en [p.a, p.b, p.c] i c e
theorem ev_ixO (i : Nat) {xs : List α} {k : Int} (e : φ[i]? = some (some (olE xs)) := by rfl) (hk : EV φ g k) : EO φ (getI i g) (atI xs k) := fun env s v q => by
  simp only [getI, s.gs e, hk env s, Option.bind_some]
  show (atI ((xs.map en).map S.fz) k).bind frzOf = _
  have h1 := atI_en xs k v q
  have : atI ((xs.map en).map S.fz) k = some (.fz (en v)) := by
    unfold atI at h1 ⊢
    rw [List.length_map]
    cases h : ixN (xs.map (en : α → D)).length k with
    | none => rw [h] at h1; cases h1
    | some j =>
      rw [h] at h1
      have h1 : (xs.map en)[j]? = some (en v) := h1
      show ((xs.map en).map S.fz)[j]? = _
      rw [List.getElem?_map, h1]; rfl
  rw [this]; rfl
section
variable [DecidableEq α] [TyEq α]
theorem op_eq (a b : α) (h : TyEq.n α ≤ 40 := by decide) : O2 dEq a b (decide (a = b)) := dEq_en a b h
theorem op_ne (a b : α) (h : TyEq.n α ≤ 40 := by decide) : O2 dNe a b (!decide (a = b)) := dNe_en a b h
theorem op_in (a : α) (xs : List α) (h : TyEq.n α ≤ 40 := by decide) : O2 dIn a xs (decide (a ∈ xs)) := by
  show (if inOk (en a) (xs.map en) = true then _ else _) = _
  rw [if_pos (inOk_en a xs h), inD_en]; rfl
theorem op_nin (a : α) (xs : List α) (h : TyEq.n α ≤ 40 := by decide) : O2 dNotIn a xs (!decide (a ∈ xs)) := by
  show (if inOk (en a) (xs.map en) = true then _ else _) = _
  rw [if_pos (inOk_en a xs h), inD_en]; rfl
theorem op_inU (a : α) (xs : Tup α) (h : TyEq.n α ≤ 40 := by decide) : O2 dIn a xs (decide (a ∈ xs.l)) := by
  show (if inOk (en a) (xs.l.map en) = true then _ else _) = _
  rw [if_pos (inOk_en a xs.l h), inD_en]; rfl
theorem op_ninU (a : α) (xs : Tup α) (h : TyEq.n α ≤ 40 := by decide) : O2 dNotIn a xs (!decide (a ∈ xs.l)) := by
  show (if inOk (en a) (xs.l.map en) = true then _ else _) = _
  rw [if_pos (inOk_en a xs.l h), inD_en]; rfl
end
/-! data compared as they stand -/
def eqDT (d e : D) : Option Bool := if cmpOk d e then some (eqD d e) else none
def neDT (d e : D) : Option Bool := if cmpOk d e then some (!eqD d e) else none
theorem op_eqD (d e : D) : O2o dEq d e (eqDT d e) := fun c q => by
  unfold eqDT at q
  show dEq d e = _
  unfold dEq
  split at q
  · rename_i h; cases q; rw [if_pos h]; rfl
  · cases q
theorem op_neD (d e : D) : O2o dNe d e (neDT d e) := fun c q => by
  unfold neDT at q
  show dNe d e = _
  unfold dNe
  split at q
  · rename_i h; cases q; rw [if_pos h]; rfl
  · cases q
/-! None -/
theorem op_is [NonN α] (o : Option α) : O2 dIs o () o.isNone := by
  cases o with
  | none => rfl
  | some a =>
    have := NonN.nn a
    show dIs (en a) .non = some (.bl false)
    revert this
    cases (en a : D) <;> intro h <;> first | rfl | exact absurd rfl h
theorem op_isn [NonN α] (o : Option α) : O2 dIsNot o () o.isSome := by
  cases o with
  | none => rfl
  | some a =>
    have := NonN.nn a
    show dIsNot (en a) .non = some (.bl true)
    revert this
    cases (en a : D) <;> intro h <;> first | rfl | exact absurd rfl h
def nonD : D → Bool
  | .non => true
  | _ => false
theorem op_isD (d : D) : O2 dIs d () (nonD d) := by cases d <;> rfl
theorem op_isnD (d : D) : O2 dIsNot d () (!nonD d) := by cases d <;> rfl
theorem op_isA [NonN α] (a : α) : O2 dIs a () false := op_is (some a)
theorem op_isnA [NonN α] (a : α) : O2 dIsNot a () true := op_isn (some a)
/-! truth -/
class Tru (α : Type) [Ty α] where
  tru : α → Bool
  ok : ∀ a : α, truE (en a) = some (tru a)
instance : Tru Bool := ⟨fun b => b, fun b => rfl⟩
instance : Tru Int := ⟨fun b => b != 0, fun b => rfl⟩
instance : Tru (List α) := ⟨fun xs => !xs.isEmpty, fun xs => by cases xs <;> rfl⟩
instance : Tru (Tup α) := ⟨fun xs => !xs.l.isEmpty, fun xs => by obtain ⟨xs⟩ := xs; cases xs <;> rfl⟩
instance [Tru α] : Tru (Option α) := ⟨fun o => match o with | none => false | some a => Tru.tru a, fun o => by cases o with | none => rfl | some a => exact Tru.ok a⟩
theorem eb_tr [Tru α] (h : EV φ f a) : EB φ (dTr f) (Tru.tru a) := fun env s => by simp only [dTr, h env s, Option.bind_some]; exact Tru.ok a
end
section
variable {φ : Fs} {f g h : VL.Env → Option D} {p q : VL.Env → Option Bool} {a b : Bool} {ob : Option Bool}
theorem eb_tb (h : EV φ f a) : EB φ (tb f) a := fun env s => by simp only [tb, h env s, Option.bind_some]; rfl
theorem eb_and (hp : EB φ p a) (hq : EB φ q b) : EB φ (tAnd2 p q) (a && b) := fun env s => by simp only [tAnd2, hp env s, hq env s, Option.bind_some]; cases a <;> rfl
theorem eb_or (hp : EB φ p a) (hq : EB φ q b) : EB φ (tOr2 p q) (a || b) := fun env s => by simp only [tOr2, hp env s, hq env s, Option.bind_some]; cases a <;> rfl
theorem ebo_and (hp : EB φ p a) (hq : EBo φ q ob) : EBo φ (tAnd2 p q) (if a = true then ob else some false) := fun env s v e => by
  simp only [tAnd2, hp env s, Option.bind_some]
  cases a
  · exact e
  · exact hq env s v e
theorem ebo_or (hp : EB φ p a) (hq : EBo φ q ob) : EBo φ (tOr2 p q) (if a = true then some true else ob) := fun env s v e => by
  simp only [tOr2, hp env s, Option.bind_some]
  cases a
  · exact hq env s v e
  · exact e
theorem eb_not (hp : EB φ p a) : EB φ (tNot1 p) (!a) := fun env s => by simp only [tNot1, hp env s, Option.map_some]
theorem ev_not (hp : EV φ f a) : EV φ (vNot1 f) (!a) := fun env s => by simp only [vNot1, hp env s, Option.bind_some]; rfl
theorem ev_and (hp : EV φ f a) (hq : EV φ g b) : EV φ (vAnd2 f g) (a && b) := fun env s => by simp only [vAnd2, hp env s, hq env s, Option.bind_some]; cases a <;> rfl
theorem ev_or (hp : EV φ f a) (hq : EV φ g b) : EV φ (vOr2 f g) (a || b) := fun env s => by simp only [vOr2, hp env s, hq env s, Option.bind_some]; cases a <;> rfl
theorem eo_and (hp : EV φ f a) (hq : EO φ g ob) : EO φ (vAnd2 f g) (if a = true then ob else some false) := fun env s v e => by
  simp only [vAnd2, hp env s, Option.bind_some]
  cases a
  · cases e; rfl
  · exact hq env s v e
theorem eo_or (hp : EV φ f a) (hq : EO φ g ob) : EO φ (vOr2 f g) (if a = true then some true else ob) := fun env s v e => by
  simp only [vOr2, hp env s, Option.bind_some]
  cases a
  · exact hq env s v e
  · cases e; rfl
end
section
variable {α β γ δ ε ρ : Type} [Ty α] [Ty β] [Ty γ] [Ty δ] [Ty ε] [Ty ρ]
variable {φ : Fs} {f g h : VL.Env → Option D} {a : α} {b : β} {c : γ} {fs : VL.Env → Option (List D)} {ds : List D} {q : VL.Env → Option Bool} {t : Bool}
theorem ev_if {a b : α} (hq : EB φ q t) (hf : EV φ f a) (hg : EV φ g b) : EV φ (vIf q f g) (if t = true then a else b) := fun env s => by
  simp only [vIf, hq env s, Option.bind_some]
  cases t
  · exact hg env s
  · exact hf env s
theorem eo_if {a b : Option α} (hq : EB φ q t) (hf : EO φ f a) (hg : EO φ g b) : EO φ (vIf q f g) (if t = true then a else b) := fun env s v e => by
  simp only [vIf, hq env s, Option.bind_some]
  cases t
  · exact hg env s v e
  · exact hf env s v e
/-! arguments, displays, calls -/
theorem ea_nil : EA φ a0 [] := fun env s => rfl
theorem ea_cons (hf : EV φ f a) (hs : EA φ fs ds) : EA φ (aCons f fs) (en a :: ds) := fun env s => by simp only [aCons, hf env s, hs env s, Option.bind_some]
theorem ev_tup {a : α} (hs : EA φ fs ds) (e : .tup ds = en a := by rfl) (l : ds.length < 1000 := by exact Nat.le_of_ble_eq_true rfl) : EV φ (dTup fs) a := fun env s => by simp only [dTup, hs env s, Option.bind_some]; rw [if_pos l, e]
theorem el_lst {xs : List α} (hs : EA φ fs ds) (e : ds = xs.map en := by rfl) (l : ds.length < 1000 := by exact Nat.le_of_ble_eq_true rfl) : EL φ (dLst fs) xs := fun env s => by simp only [dLst, hs env s, Option.bind_some]; rw [if_pos l, e]
theorem ev_fL {fl : VL.Env → Option (List D)} {xs : List α} (h : EL φ fl xs) : EV φ (fL fl) xs := fun env s => by simp only [fL, h env s, Option.map_some]; rfl
theorem eo_fL {fl : VL.Env → Option (List D)} {o : Option (List α)} (h : ELo φ fl o) : EO φ (fL fl) o := fun env s v e => by simp only [fL, h env s v e, Option.map_some]; rfl
theorem eo_call {F : List D → Option S} {o : Option α} (hs : EA φ fs ds) (k : ∀ r, o = some r → ∃ s, F ds = some s ∧ frS s = some (en r)) : EO φ (cF fs F) o := fun env s v e => by
  obtain ⟨z, k1, k2⟩ := k v e
  simp only [cF, hs env s, Option.bind_some, k1, k2]
theorem eo_callW {F : List D → Option S} {o : Option α} (hs : EA φ fs ds) (k : ∀ r, o = some r → F ds = some (fzE r)) (hc : ∀ r : α, scal (en r) = some (en r)) : EO φ (cW fs F) o := fun env s v e => by
  simp only [cW, hs env s, Option.bind_some, k v e]
  exact hc v
theorem fz_ret {F : List D → Option S} {o : Option α} (k : ∀ r, o = some r → F ds = some (fzE r)) : ∀ r, o = some r → ∃ s, F ds = some s ∧ frS s = some (en r) := fun r e => ⟨_, k r e, rfl⟩
theorem ol_ret {F : List D → Option S} {o : Option (List α)} (k : ∀ r, o = some r → F ds = some (olE r)) : ∀ r, o = some r → ∃ s, F ds = some s ∧ frS s = some (en r) := fun r e => ⟨_, k r e, frS_olE r⟩
theorem ev_cB {p : List D → Option D} (hs : EA φ fs ds) (k : p ds = some (en c)) : EV φ (cB fs p) c := fun env s => by simp only [cB, hs env s, Option.bind_some, k]
theorem eo_cB {p : List D → Option D} {o : Option γ} (hs : EA φ fs ds) (k : ∀ c, o = some c → p ds = some (en c)) : EO φ (cB fs p) o := fun env s v e => by simp only [cB, hs env s, Option.bind_some, k v e]
theorem el_cL {p : List D → Option (List D)} {xs : List γ} (hs : EA φ fs ds) (k : p ds = some (xs.map en)) : EL φ (cL fs p) xs := fun env s => by simp only [cL, hs env s, Option.bind_some, k]
theorem elo_cL {p : List D → Option (List D)} {o : Option (List γ)} (hs : EA φ fs ds) (k : ∀ c, o = some c → p ds = some (c.map en)) : ELo φ (cL fs p) o := fun env s v e => by simp only [cL, hs env s, Option.bind_some, k v e]
/-! built-ins -/
theorem bi_len (xs : List α) : dLen [en xs] = some (en (xs.length : Int)) := by show some (D.int _) = _; rw [List.length_map]; rfl
theorem bi_lenU (xs : Tup α) : dLen [en xs] = some (en (xs.l.length : Int)) := by show some (D.int _) = _; rw [List.length_map]; rfl
theorem bi_sum (xs : List Int) : dSum [en xs] = some (en xs.sum) := by
  show (intsOf (xs.map D.int)).map _ = _
  rw [intsOf_map]; rfl
theorem bi_any (xs : List Bool) : dAny [en xs] = some (en (xs.any _root_.id)) := by
  show (blsOf (xs.map D.bl)).map _ = _
  rw [blsOf_map]; rfl
theorem bi_all (xs : List Bool) : dAll [en xs] = some (en (xs.all _root_.id)) := by
  show (blsOf (xs.map D.bl)).map _ = _
  rw [blsOf_map]; rfl
theorem bi_abs (a : Int) : dAbs [en a] = some (en (a.natAbs : Int)) := rfl
theorem bi_int (a : Int) : dInt [en a] = some (en a) := rfl
def b2i (b : Bool) : Int := if b = true then 1 else 0
theorem bi_intB (b : Bool) : dInt [en b] = some (en (b2i b)) := rfl
theorem bi_min2 (a b : Int) : dMinA [en a, en b] = some (en (min a b)) := rfl
theorem bi_max2 (a b : Int) : dMaxA [en a, en b] = some (en (max a b)) := rfl
theorem bi_minP (p : Int × Int) : dMinA [en p] = some (en (min p.1 p.2)) := dMin_tup2 p.1 p.2
theorem bi_tuple (xs : List α) : dTuple [en xs] = some (en (Tup.mk xs)) := rfl
theorem bi_tupleU (xs : Tup α) : dTuple [en xs] = some (en xs) := rfl
theorem bi_list (xs : List α) : dList [en xs] = some (xs.map en) := rfl
theorem bi_listU (xs : Tup α) : dList [en xs] = some (xs.l.map en) := rfl
section
variable [DecidableEq α] [TyOrd α]
theorem bi_min (xs : List α) (h : TyEq.n α ≤ 40 := by decide) : ∀ c, minT xs = some c → dMinA [en xs] = some (en c) := fun c e => dMinA_en h e
theorem bi_max (xs : List α) (h : TyEq.n α ≤ 40 := by decide) : ∀ c, maxT xs = some c → dMaxA [en xs] = some (en c) := fun c e => dMaxA_en h e
theorem bi_minU (xs : Tup α) (h : TyEq.n α ≤ 40 := by decide) : ∀ c, minT xs.l = some c → dMinA [en xs] = some (en c) := fun c e => dMinA_enT h e
theorem bi_maxU (xs : Tup α) (h : TyEq.n α ≤ 40 := by decide) : ∀ c, maxT xs.l = some c → dMaxA [en xs] = some (en c) := fun c e => dMaxA_enT h e
def sortO (xs : List α) : Option (List α) := if xs.length ≤ sizeLine then some (sortT xs) else none
theorem bi_sort (xs : List α) (h : TyEq.n α ≤ 40 := by decide) : ∀ c, sortO xs = some c → dSorted [en xs] = some (c.map en) := fun c e => by
  unfold sortO at e
  split at e
  · rename_i hl
    cases e
    show (if sortOk (xs.map en) = true then _ else _) = _
    rw [if_pos (sortOk_en xs h hl), sortD_en]
  · cases e
end
theorem ev_isi {x : String} (h : EV φ f a) (e : isTup (en a) = some (.bl t)) : EV φ (dIsi x f) t := fun env s => by simp only [dIsi, h env s, Option.bind_some, e]; rfl
def isTupT (d : D) : Option Bool := (isTup d).bind bOf
theorem eo_isi {x : String} {d : D} (h : EV φ f d) : EO φ (dIsi x f) (isTupT d) := fun env s v e => by
  simp only [dIsi, h env s, Option.bind_some]
  obtain ⟨z, e1, e2⟩ := Option.bind_eq_some_iff.mp e
  rw [show isTup (en d) = isTup d from rfl, e1]
  exact congrArg some (bOf_some e2)
/-! walks -/
def rangeT (lo hi : Int) : List Int := (List.range (hi - lo).toNat).map fun (k : Nat) => lo + (k : Int)
def rngT (n : Int) : Option (List Int) := if n.natAbs ≤ sizeLine then some (rangeT 0 n) else none
def rng2T (a b : Int) : Option (List Int) := if a.natAbs ≤ sizeLine ∧ b.natAbs ≤ 4000000 ∧ (b - a).toNat ≤ sizeLine then some (rangeT a b) else none
def enumT (xs : List α) : List (Int × α) := xs.zipIdx.map fun p => ((p.2 : Int), p.1)
theorem rangeT_en (lo hi : Int) : (rangeT lo hi).map en = rangeD lo (hi - lo).toNat := by
  unfold rangeT
  rw [List.map_map]; rfl
theorem mem_rangeT {lo hi x : Int} : x ∈ rangeT lo hi ↔ lo ≤ x ∧ x < hi := by
  unfold rangeT
  rw [List.mem_map]
  constructor
  · rintro ⟨k, m, rfl⟩
    have := List.mem_range.mp m
    omega
  · rintro ⟨h1, h2⟩
    exact ⟨(x - lo).toNat, List.mem_range.mpr (by omega), by omega⟩
theorem ei_seq {xs : List α} (h : EV φ f xs) : EL φ (iSq f) xs := fun env s => by simp only [iSq, h env s, Option.bind_some]; rfl
theorem ei_tup {xs : Tup α} (h : EV φ f xs) : EL φ (iSq f) xs.l := fun env s => by simp only [iSq, h env s, Option.bind_some]; rfl
theorem ei_pair {p : α × α} (h : EV φ f p) : EL φ (iSq f) [p.1, p.2] := fun env s => by simp only [iSq, h env s, Option.bind_some]; rfl
theorem ei_own (i : Nat) {xs : List α} (e : φ[i]? = some (some (olE xs)) := by rfl) : EL φ (iOw i) xs := fun env s => by simp only [iOw, s.gs e, Option.bind_some]; exact olOf_olE xs
theorem ei_r1 {n : Int} (h : EA φ fs [en n]) : ELo φ (iR1 fs) (rngT n) := fun env s v e => by
  unfold rngT at e
  split at e
  · rename_i hn
    cases e
    simp only [iR1, h env s, Option.bind_some]
    refine (rng1_int hn).trans ?_
    rw [rangeT_en, Int.sub_zero]
  · cases e
theorem ei_r2 {a b : Int} (h : EA φ fs [en a, en b]) : ELo φ (iR2 fs) (rng2T a b) := fun env s v e => by
  unfold rng2T at e
  split at e
  · rename_i hn
    cases e
    simp only [iR2, h env s, Option.bind_some]
    refine (if_pos hn).trans ?_
    rw [rangeT_en]
  · cases e
theorem enumT_en (xs : List α) : (enumT xs).map en = enumD (xs.map en) := by
  unfold enumD enumT
  rw [List.mapIdx_eq_zipIdx_map, List.zipIdx_map, List.map_map, List.map_map]
  rfl
theorem ei_en {xs : List α} (h : EV φ f xs) : EL φ (iEn f) (enumT xs) := fun env s => by
  simp only [iEn, h env s, Option.bind_some]
  show some (enumD (xs.map en)) = _
  rw [enumT_en]
theorem el_rg {n : Int} (h : EV φ f n) : ELo φ (dRgL f) (rngT n) := fun env s v e => by
  unfold rngT at e
  split at e
  · rename_i hn
    cases e
    simp only [dRgL, h env s, Option.bind_some]
    refine (if_pos hn).trans ?_
    rw [rangeT_en, Int.sub_zero]
  · cases e
/-! slices -/
theorem es_0 : GJ φ (fun o : Option Int => o) sl0 none := fun env s => rfl
theorem es_1 {i : Int} (h : EV φ f i) : GJ φ (fun o : Option Int => o) (sl1 f) (some i) := fun env s => by simp only [sl1, h env s, Option.bind_some]; rfl
theorem cutD_map (xs : List α) (lo hi : Option Int) : VL.cutD (xs.map en) lo hi = (VL.cutD xs lo hi).map en := by
  unfold VL.cutD
  rw [List.length_map, List.map_take, List.map_drop]
theorem el_cut {xs : List α} {lo hi : Option Int} {l r : VL.Env → Option (Option Int)} (h : EV φ f xs) (hl : GJ φ (fun o : Option Int => o) l lo) (hr : GJ φ (fun o : Option Int => o) r hi) : EL φ (dCut f l r) (VL.cutD xs lo hi) := fun env s => by
  simp only [dCut, h env s, Option.bind_some, hl env s, hr env s]
  show some (VL.cutD (xs.map en) lo hi) = _
  rw [cutD_map]
/-! targets -/
def TG (φ : Fs) (ft : D → VL.Env → Option VL.Env) (x : α) (ψ : Fs) : Prop := ∀ env, Sat φ env → ∃ env', ft (en x) env = some env' ∧ Sat ψ env'
theorem tg_n (i : Nat) : TG φ (gN i) a (φ.set i (some (.fz (en a)))) := fun env s => ⟨_, rfl, s.set i _⟩
theorem tg_1 {F1 : D → VL.Env → Option VL.Env} {φ1 : Fs} {p : T1 α} (h1 : TG φ F1 p.a φ1) : TG φ (gT (gsC F1 gs0)) p φ1 := fun env s => by
  obtain ⟨e1, k1, s1⟩ := h1 env s
  refine ⟨e1, ?_, s1⟩
  show (F1 (en p.a) env).bind _ = _
  rw [k1]; rfl
theorem tg_2 {F1 F2 : D → VL.Env → Option VL.Env} {φ1 φ2 : Fs} {p : α × β} (h1 : TG φ F1 p.1 φ1) (h2 : TG φ1 F2 p.2 φ2) : TG φ (gT (gsC F1 (gsC F2 gs0))) p φ2 := fun env s => by
  obtain ⟨e1, k1, s1⟩ := h1 env s
  obtain ⟨e2, k2, s2⟩ := h2 e1 s1
  refine ⟨e2, ?_, s2⟩
  show (F1 (en p.1) env).bind _ = _
  rw [k1]
  show (F2 (en p.2) e1).bind _ = _
  rw [k2]; rfl
theorem tg_3 {F1 F2 F3 : D → VL.Env → Option VL.Env} {φ1 φ2 φ3 : Fs} {p : T3 α β γ} (h1 : TG φ F1 p.a φ1) (h2 : TG φ1 F2 p.b φ2) (h3 : TG φ2 F3 p.c φ3) : TG φ (gT (gsC F1 (gsC F2 (gsC F3 gs0)))) p φ3 := fun env s => by
  obtain ⟨e1, k1, s1⟩ := h1 env s
  obtain ⟨e2, k2, s2⟩ := h2 e1 s1
  obtain ⟨e3, k3, s3⟩ := h3 e2 s2
  refine ⟨e3, ?_, s3⟩
  show (F1 (en p.a) env).bind _ = _
  rw [k1]
  show (F2 (en p.b) e1).bind _ = _
  rw [k2]
  show (F3 (en p.c) e2).bind _ = _
  rw [k3]; rfl
theorem tg_4 {F1 F2 F3 F4 : D → VL.Env → Option VL.Env} {φ1 φ2 φ3 φ4 : Fs} {p : T4 α β γ δ} (h1 : TG φ F1 p.a φ1) (h2 : TG φ1 F2 p.b φ2) (h3 : TG φ2 F3 p.c φ3) (h4 : TG φ3 F4 p.d φ4) : TG φ (gT (gsC F1 (gsC F2 (gsC F3 (gsC F4 gs0))))) p φ4 := fun env s => by
  obtain ⟨e1, k1, s1⟩ := h1 env s
  obtain ⟨e2, k2, s2⟩ := h2 e1 s1
  obtain ⟨e3, k3, s3⟩ := h3 e2 s2
  obtain ⟨e4, k4, s4⟩ := h4 e3 s3
  refine ⟨e4, ?_, s4⟩
  show (F1 (en p.a) env).bind _ = _
  rw [k1]
  show (F2 (en p.b) e1).bind _ = _
  rw [k2]
  show (F3 (en p.c) e2).bind _ = _
  rw [k3]
  show (F4 (en p.d) e3).bind _ = _
  rw [k4]; rfl
theorem tg_5 {F1 F2 F3 F4 F5 : D → VL.Env → Option VL.Env} {φ1 φ2 φ3 φ4 φ5 : Fs} {p : T5 α β γ δ ε} (h1 : TG φ F1 p.a φ1) (h2 : TG φ1 F2 p.b φ2) (h3 : TG φ2 F3 p.c φ3) (h4 : TG φ3 F4 p.d φ4) (h5 : TG φ4 F5 p.e φ5) : TG φ (gT (gsC F1 (gsC F2 (gsC F3 (gsC F4 (gsC F5 gs0)))))) p φ5 := fun env s => by
  obtain ⟨e1, k1, s1⟩ := h1 env s
  obtain ⟨e2, k2, s2⟩ := h2 e1 s1
  obtain ⟨e3, k3, s3⟩ := h3 e2 s2
  obtain ⟨e4, k4, s4⟩ := h4 e3 s3
  obtain ⟨e5, k5, s5⟩ := h5 e4 s4
  refine ⟨e5, ?_, s5⟩
  show (F1 (en p.a) env).bind _ = _
  rw [k1]
  show (F2 (en p.b) e1).bind _ = _
  rw [k2]
  show (F3 (en p.c) e2).bind _ = _
  rw [k3]
  show (F4 (en p.d) e3).bind _ = _
  rw [k4]
  show (F5 (en p.e) e4).bind _ = _
  rw [k5]; rfl
/-! comprehensions -/
def compT {α β : Type} (c : α → Option Bool) (g : α → Option β) : List α → Option (List β)
  | [] => some []
  | x :: xs => (c x).bind fun b => if b = true then (g x).bind fun y => (compT c g xs).map (y :: ·) else compT c g xs
def mapT {α β : Type} (g : α → Option β) : List α → Option (List β)
  | [] => some []
  | x :: xs => (g x).bind fun y => (mapT g xs).map (y :: ·)
variable {fi : VL.Env → Option (List D)} {fc : VL.Env → Option Bool} {ft : D → VL.Env → Option VL.Env} {vs : List Nat} {φ1 : α → Fs} {xs : List α}
theorem compD_compT {ft : D → VL.Env → Option VL.Env} {fc : VL.Env → Option Bool} {fe : VL.Env → Option D} {env : VL.Env} {cc : α → Option Bool} {gg : α → Option β} : ∀ {xs : List α} {ys : List β}, (∀ x, ∃ e1, ft (en x) env = some e1 ∧ (∀ b, cc x = some b → fc e1 = some b) ∧ ∀ y, gg x = some y → fe e1 = some (en y)) → compT cc gg xs = some ys → compD ft fc fe env (xs.map en) = some (ys.map en)
  | [], ys, h, e => by cases e; rfl
  | x :: xs, ys, h, e => by
    obtain ⟨e1, k1, k2, k3⟩ := h x
    obtain ⟨b, q1, q2⟩ := Option.bind_eq_some_iff.mp e
    show (ft (en x) env).bind _ = _
    rw [k1]
    show (fc e1).bind _ = _
    rw [k2 b q1]
    show (if b = true then _ else _) = _
    by_cases hb : b = true
    · rw [if_pos hb] at q2 ⊢
      obtain ⟨y, q3, q4⟩ := Option.bind_eq_some_iff.mp q2
      obtain ⟨zs, q5, q6⟩ := Option.map_eq_some_iff.mp q4
      subst q6
      rw [k3 y q3]
      show (compD ft fc fe env (xs.map en)).map _ = _
      rw [compD_compT h q5]; rfl
    · rw [if_neg hb] at q2 ⊢
      exact compD_compT h q2
theorem elo_comp {cc : α → Option Bool} {gg : α → Option β} {fe : VL.Env → Option D} (hi : EL φ fi xs) (ht : ∀ x, TG (wipeF φ vs) ft x (φ1 x)) (hc : ∀ x, EBo (φ1 x) fc (cc x)) (he : ∀ x, EO (φ1 x) fe (gg x)) : ELo φ (dComp vs fi ft fc fe) (compT cc gg xs) := fun env s v e => by
  simp only [dComp, hi env s, Option.bind_some]
  refine compD_compT (fun x => ?_) e
  obtain ⟨e1, k1, k2⟩ := ht x _ (s.wipe vs)
  exact ⟨e1, k1, fun b q => hc x e1 k2 b q, fun y q => he x e1 k2 y q⟩
theorem mapT_comp {g : α → Option β} : ∀ xs : List α, compT (fun _ => some true) g xs = mapT g xs
  | [] => rfl
  | x :: xs => by
    show (g x).bind _ = (g x).bind _
    rw [mapT_comp xs]
theorem elo_map {gg : α → Option β} {fe : VL.Env → Option D} (hi : EL φ fi xs) (ht : ∀ x, TG (wipeF φ vs) ft x (φ1 x)) (he : ∀ x, EO (φ1 x) fe (gg x)) : ELo φ (dComp vs fi ft cY fe) (mapT gg xs) := by
  rw [← mapT_comp]
  exact elo_comp hi ht (fun x env s b e => by cases e; rfl) he
theorem compT_tot {cc : α → Bool} {gg : α → β} : ∀ xs : List α, compT (fun x => some (cc x)) (fun x => some (gg x)) xs = some ((xs.filter cc).map gg)
  | [] => rfl
  | x :: xs => by
    show (if cc x = true then (compT _ _ xs).map _ else compT _ _ xs) = _
    rw [compT_tot xs]
    by_cases h : cc x = true
    · rw [if_pos h, List.filter_cons_of_pos h]; rfl
    · rw [if_neg h, List.filter_cons_of_neg h]
theorem mapT_tot {gg : α → β} : ∀ xs : List α, mapT (fun x => some (gg x)) xs = some (xs.map gg)
  | [] => rfl
  | x :: xs => by
    show (mapT _ xs).map _ = _
    rw [mapT_tot xs]; rfl
theorem el_map {gg : α → β} {fe : VL.Env → Option D} (hi : EL φ fi xs) (ht : ∀ x, TG (wipeF φ vs) ft x (φ1 x)) (he : ∀ x, EV (φ1 x) fe (gg x)) : EL φ (dComp vs fi ft cY fe) (xs.map gg) :=
  fun env s => elo_map hi ht (fun x => (he x).o) env s _ (mapT_tot xs)
theorem el_comp {cc : α → Bool} {gg : α → β} {fe : VL.Env → Option D} (hi : EL φ fi xs) (ht : ∀ x, TG (wipeF φ vs) ft x (φ1 x)) (hc : ∀ x, EB (φ1 x) fc (cc x)) (he : ∀ x, EV (φ1 x) fe (gg x)) : EL φ (dComp vs fi ft fc fe) ((xs.filter cc).map gg) :=
  fun env s => elo_comp hi ht (fun x => (hc x).o) (fun x => (he x).o) env s _ (compT_tot xs)
end
end TL

set_option Elab.async false
set_option linter.all false
set_option maxRecDepth 100000
/-! TL3: statements, typed. -/
namespace TL
open PySem PySem.Spec PyProof.Rows L2 VL
open Ty (en)
inductive Flow (τ σ ρ : Type) where
  | nx (t : τ)
  | bk (s : σ)
  | ct (s : σ)
  | rt (r : ρ)
def FlOk {τ σ ρ : Type} (N : τ → VL.Env → Prop) (B : σ → VL.Env → Prop) (R : ρ → S → VL.Env → Prop) : Flow τ σ ρ → Out → Prop
  | .nx t, .nx e => N t e
  | .bk s, .bk e => B s e
  | .ct s, .ct e => B s e
  | .rt r, .rt s e => R r s e
  | _, _ => False
def BL {τ σ ρ : Type} (φ : Fs) (f : VL.Env → Option Out) (m : Option (Flow τ σ ρ)) (N : τ → VL.Env → Prop) (B : σ → VL.Env → Prop) (R : ρ → S → VL.Env → Prop) : Prop :=
  ∀ env, Sat φ env → ∀ fl, m = some fl → ∃ o, f env = some o ∧ FlOk N B R fl o
def NF {τ : Type} (ψ : τ → Fs) : τ → VL.Env → Prop := fun t e => Sat (ψ t) e
def never {τ : Type} : τ → VL.Env → Prop := fun _ _ => False
/-- a simple statement -/
def SS {τ : Type} (φ : Fs) (f : VL.Env → Option Out) (o : Option τ) (ψ : τ → Fs) : Prop := ∀ env, Sat φ env → ∀ t, o = some t → ∃ env', f env = some (.nx env') ∧ Sat (ψ t) env'
/-- one after the other -/
def sqT {τ τ' σ ρ : Type} (m : Option (Flow τ σ ρ)) (k : τ → Option (Flow τ' σ ρ)) : Option (Flow τ' σ ρ) := m.bind fun fl => match fl with
  | .nx t => k t
  | .bk s => some (.bk s)
  | .ct s => some (.ct s)
  | .rt r => some (.rt r)
@[simp] theorem sqT_nx {τ τ' σ ρ : Type} (t : τ) (k : τ → Option (Flow τ' σ ρ)) : sqT (some (.nx t)) k = k t := rfl
@[simp] theorem sqT_rt {τ τ' σ ρ : Type} (r : ρ) (k : τ → Option (Flow τ' σ ρ)) : sqT (some (.rt r)) k = some (.rt r) := rfl
@[simp] theorem sqT_bk {τ τ' σ ρ : Type} (r : σ) (k : τ → Option (Flow τ' σ ρ)) : sqT (some (.bk r)) k = some (.bk r) := rfl
@[simp] theorem sqT_ct {τ τ' σ ρ : Type} (r : σ) (k : τ → Option (Flow τ' σ ρ)) : sqT (some (.ct r)) k = some (.ct r) := rfl
def loopT {α σ σ' ρ : Type} (body : α → σ → Option (Flow σ σ ρ)) : List α → σ → Option (Flow σ σ' ρ)
  | [], s => some (.nx s)
  | x :: xs, s => (body x s).bind fun fl => match fl with
    | .nx s => loopT body xs s
    | .ct s => loopT body xs s
    | .bk s => some (.nx s)
    | .rt r => some (.rt r)
@[simp] theorem loopT_nil {α σ σ' ρ : Type} (body : α → σ → Option (Flow σ σ ρ)) (s : σ) : (loopT body [] s : Option (Flow σ σ' ρ)) = some (.nx s) := rfl
theorem loopT_nx {α σ σ' ρ : Type} {body : α → σ → Option (Flow σ σ ρ)} {x : α} {xs : List α} {s t : σ} (h : body x s = some (.nx t)) : (loopT body (x :: xs) s : Option (Flow σ σ' ρ)) = loopT body xs t := by
  show (body x s).bind _ = _
  rw [h]; rfl
theorem loopT_ct {α σ σ' ρ : Type} {body : α → σ → Option (Flow σ σ ρ)} {x : α} {xs : List α} {s t : σ} (h : body x s = some (.ct t)) : (loopT body (x :: xs) s : Option (Flow σ σ' ρ)) = loopT body xs t := by
  show (body x s).bind _ = _
  rw [h]; rfl
theorem loopT_bk {α σ σ' ρ : Type} {body : α → σ → Option (Flow σ σ ρ)} {x : α} {xs : List α} {s t : σ} (h : body x s = some (.bk t)) : (loopT body (x :: xs) s : Option (Flow σ σ' ρ)) = some (.nx t) := by
  show (body x s).bind _ = _
  rw [h]; rfl
theorem loopT_rt {α σ σ' ρ : Type} {body : α → σ → Option (Flow σ σ ρ)} {x : α} {xs : List α} {s : σ} {r : ρ} (h : body x s = some (.rt r)) : (loopT body (x :: xs) s : Option (Flow σ σ' ρ)) = some (.rt r) := by
  show (body x s).bind _ = _
  rw [h]; rfl
@[irreducible] def fuelK (n : Nat) : Nat := n
theorem fuelK_eq (n : Nat) : fuelK n = n := by unfold fuelK; rfl
def whT {σ σ' ρ : Type} (c : σ → Option Bool) (body : σ → Option (Flow σ σ ρ)) : Nat → σ → Option (Flow σ σ' ρ)
  | 0, _ => none
  | n + 1, s => (c s).bind fun b => if b = true then (body s).bind fun fl => match fl with
      | .nx s => whT c body n s
      | .ct s => whT c body n s
      | .bk s => some (.nx s)
      | .rt r => some (.rt r)
    else some (.nx s)
section
variable {α β γ : Type} [Ty α] [Ty β] [Ty γ] {τ τ' σ σ' ρ T : Type} {φ φ' : Fs} {f fr fA fB : VL.Env → Option Out} {m mA mB : Option (Flow τ σ ρ)} {N : τ → VL.Env → Prop} {B : σ → VL.Env → Prop} {R : ρ → S → VL.Env → Prop}
variable {fe fk : VL.Env → Option D} {a : α} {b : β} {ψ : τ → Fs}
theorem bl_bind {τ1 : Type} {R' : τ1 → T} {g : VL.Env → Option T} {o : Option τ1} {k : τ1 → Option (Flow τ σ ρ)} (hg : GO φ R' g o) (h : ∀ v, GJ φ R' g v → BL φ f (k v) N B R) : BL φ f (o.bind k) N B R := fun env s fl e => by
  obtain ⟨x, e1, e2⟩ := Option.bind_eq_some_iff.mp e
  exact h x (fun env' s' => hg env' s' x e1) env s fl e2
theorem ss_bind {τ1 : Type} {R' : τ1 → T} {g : VL.Env → Option T} {o : Option τ1} {k : τ1 → Option τ} (hg : GO φ R' g o) (h : ∀ v, GJ φ R' g v → SS φ f (k v) ψ) : SS φ f (o.bind k) ψ := fun env s fl e => by
  obtain ⟨x, e1, e2⟩ := Option.bind_eq_some_iff.mp e
  exact h x (fun env' s' => hg env' s' x e1) env s fl e2
theorem bl_le (h : Le φ φ') (k : BL φ' f m N B R) : BL φ f m N B R := fun env s => k env (h.sat s)
/-! ends -/
theorem nf {ψ : τ → Fs} {t : τ} (h : Le φ (ψ t)) : ∀ env, Sat φ env → NF ψ t env := fun env s => h.sat s
theorem bl_nx {t : τ} (h : ∀ env, Sat φ env → N t env) : BL φ sNx (some (.nx t) : Option (Flow τ σ ρ)) N B R := fun env s fl e => by cases e; exact ⟨_, rfl, h env s⟩
theorem bl_bk {t : σ} (h : ∀ env, Sat φ env → B t env) : BL φ sBk (some (.bk t) : Option (Flow τ σ ρ)) N B R := fun env s fl e => by cases e; exact ⟨_, rfl, h env s⟩
theorem bl_ct {t : σ} (h : ∀ env, Sat φ env → B t env) : BL φ sCt (some (.ct t) : Option (Flow τ σ ρ)) N B R := fun env s fl e => by cases e; exact ⟨_, rfl, h env s⟩
/-- what a def answers: s is R r -/
def RS (Rs : ρ → S) : ρ → S → VL.Env → Prop := fun r s _ => s = Rs r
theorem rs {Rs : ρ → S} {r : ρ} : ∀ env, Sat φ env → RS Rs r (Rs r) env := fun _ _ => rfl
theorem bl_ret {r : ρ} (h : EV φ fe a) (k : ∀ env, Sat φ env → R r (.fz (en a)) env) : BL φ (sRet fe) (some (.rt r) : Option (Flow τ σ ρ)) N B R := fun env s fl e => by
  cases e
  exact ⟨.rt (.fz (en a)) env, by simp only [sRet, h env s, Option.map_some], k env s⟩
theorem bl_ret0 {r : ρ} (k : ∀ env, Sat φ env → R r (.fz .non) env) : BL φ sRet0 (some (.rt r) : Option (Flow τ σ ρ)) N B R := fun env s fl e => by
  cases e
  exact ⟨.rt (.fz .non) env, rfl, k env s⟩
theorem bl_retN (i : Nat) {r : ρ} {z : S} (e : φ[i]? = some (some z)) (k : ∀ env, Sat (φ.set i none) env → R r z env) : BL φ (sRetN i) (some (.rt r) : Option (Flow τ σ ρ)) N B R := fun env s fl q => by
  cases q
  exact ⟨.rt z (env.set i none), by simp only [sRetN, s.gs e, Option.map_some], k _ (s.drop i none)⟩
theorem bl_retO {r : ρ} {z : S} {fo : VL.Env → Option S} (h : ∀ env, Sat φ env → fo env = some z) (k : ∀ env, Sat φ env → R r z env) : BL φ (sRetO fo) (some (.rt r) : Option (Flow τ σ ρ)) N B R := fun env s fl e => by
  cases e
  exact ⟨.rt z env, by simp only [sRetO, h env s, Option.map_some], k env s⟩
/-! sequences -/
theorem bl_ss {o : Option τ'} {ψ : τ' → Fs} {k : τ' → Option (Flow τ σ ρ)} (h : SS φ f o ψ) (hk : ∀ t, BL (ψ t) fr (k t) N B R) : BL φ (sq f fr) (o.bind k) N B R := fun env s fl e => by
  obtain ⟨t, e1, e2⟩ := Option.bind_eq_some_iff.mp e
  obtain ⟨env', q1, q2⟩ := h env s t e1
  obtain ⟨u, q3, q4⟩ := hk t env' q2 fl e2
  exact ⟨u, by simp only [sq, q1, Option.bind_some]; exact q3, q4⟩
theorem bl_ssl {o : Option τ'} {ψ : τ' → Fs} {k : τ' → Option (Flow τ σ ρ)} (h : SS φ f o ψ) (hk : ∀ t, BL (ψ t) sNx (k t) N B R) : BL φ f (o.bind k) N B R := fun env s fl e => by
  obtain ⟨t, e1, e2⟩ := Option.bind_eq_some_iff.mp e
  obtain ⟨env', q1, q2⟩ := h env s t e1
  obtain ⟨u, q3, q4⟩ := hk t env' q2 fl e2
  cases q3
  exact ⟨_, q1, q4⟩
theorem bl_seq {m1 : Option (Flow τ' σ ρ)} {ψ : τ' → Fs} {k : τ' → Option (Flow τ σ ρ)} (h : BL φ f m1 (NF ψ) B R) (hk : ∀ t, BL (ψ t) fr (k t) N B R) : BL φ (sq f fr) (sqT m1 k) N B R := fun env s fl e => by
  obtain ⟨fl1, e1, e2⟩ := Option.bind_eq_some_iff.mp e
  obtain ⟨u, q1, q2⟩ := h env s fl1 e1
  cases fl1 with
  | nx t => cases u with
    | nx env' =>
      obtain ⟨u, q3, q4⟩ := hk t env' q2 fl e2
      exact ⟨u, by simp only [sq, q1, Option.bind_some]; exact q3, q4⟩
    | _ => exact q2.elim
  | bk t => cases u with
    | bk env' => cases e2; exact ⟨.bk env', by simp only [sq, q1, Option.bind_some], q2⟩
    | _ => exact q2.elim
  | ct t => cases u with
    | ct env' => cases e2; exact ⟨.ct env', by simp only [sq, q1, Option.bind_some], q2⟩
    | _ => exact q2.elim
  | rt t => cases u with
    | rt z env' => cases e2; exact ⟨.rt z env', by simp only [sq, q1, Option.bind_some], q2⟩
    | _ => exact q2.elim
theorem sq_nx (f : VL.Env → Option Out) : sq f sNx = f := by
  funext env
  unfold sq
  cases f env with
  | none => rfl
  | some o => cases o <;> rfl
theorem bl_seql {m1 : Option (Flow τ' σ ρ)} {ψ : τ' → Fs} {k : τ' → Option (Flow τ σ ρ)} (h : BL φ f m1 (NF ψ) B R) (hk : ∀ t, BL (ψ t) sNx (k t) N B R) : BL φ f (sqT m1 k) N B R := by
  rw [← sq_nx f]
  exact bl_seq h hk
theorem bl_skip (h : BL φ fr m N B R) : BL φ (sq sNx fr) m N B R := h
/-! if -/
variable {c : VL.Env → Option Bool} {t : Bool}
theorem bl_if (hc : EB φ c t) (hA : BL φ fA mA N B R) (hB : BL φ fB mB N B R) : BL φ (sIf c fA fB) (if t = true then mA else mB) N B R := fun env s fl e => by
  simp only [sIf, hc env s, Option.bind_some]
  cases t
  · exact hB env s fl e
  · exact hA env s fl e
theorem bl_ifA (hc : EB φ c t) (hA : BL φ fA mA never B R) (hB : BL φ (sq fB fr) mB N B R) : BL φ (sq (sIf c fA fB) fr) (if t = true then mA else mB) N B R := fun env s fl e => by
  cases t
  · obtain ⟨u, q1, q2⟩ := hB env s fl e
    refine ⟨u, ?_, q2⟩
    simp only [sq, sIf, hc env s, Option.bind_some]
    exact q1
  · obtain ⟨u, q1, q2⟩ := hA env s fl e
    cases fl with
    | nx t => cases u <;> exact q2.elim
    | bk t => cases u with
      | bk e' => exact ⟨.bk e', by simp only [sq, sIf, hc env s, Option.bind_some, if_true, q1], q2⟩
      | _ => exact q2.elim
    | ct t => cases u with
      | ct e' => exact ⟨.ct e', by simp only [sq, sIf, hc env s, Option.bind_some, if_true, q1], q2⟩
      | _ => exact q2.elim
    | rt t => cases u with
      | rt z e' => exact ⟨.rt z e', by simp only [sq, sIf, hc env s, Option.bind_some, if_true, q1], q2⟩
      | _ => exact q2.elim
theorem bl_ifB (hc : EB φ c t) (hA : BL φ (sq fA fr) mA N B R) (hB : BL φ fB mB never B R) : BL φ (sq (sIf c fA fB) fr) (if t = true then mA else mB) N B R := fun env s fl e => by
  cases t
  · obtain ⟨u, q1, q2⟩ := hB env s fl e
    cases fl with
    | nx t => cases u <;> exact q2.elim
    | bk t => cases u with
      | bk e' => exact ⟨.bk e', by simp only [sq, sIf, hc env s, Option.bind_some, q1]; rfl, q2⟩
      | _ => exact q2.elim
    | ct t => cases u with
      | ct e' => exact ⟨.ct e', by simp only [sq, sIf, hc env s, Option.bind_some, q1]; rfl, q2⟩
      | _ => exact q2.elim
    | rt t => cases u with
      | rt z e' => exact ⟨.rt z e', by simp only [sq, sIf, hc env s, Option.bind_some, q1]; rfl, q2⟩
      | _ => exact q2.elim
  · obtain ⟨u, q1, q2⟩ := hA env s fl e
    refine ⟨u, ?_, q2⟩
    simp only [sq, sIf, hc env s, Option.bind_some]
    exact q1
/-! freezing -/
theorem bl_fzs (i : Nat) {z : S} {d : D} (e : φ[i]? = some (some z)) (k : frS z = some d) (h : BL (φ.set i (some (.fz d))) (sq f fr) m N B R) : BL φ (sq (dFz i f) fr) m N B R := fun env s fl q => by
  obtain ⟨u, q1, q2⟩ := h _ (s.set i (.fz d)) fl q
  refine ⟨u, ?_, q2⟩
  simp only [sq, dFz, frzE, s.gs e, Option.bind_some, k, Option.map_some]
  exact q1
theorem bl_fz (i : Nat) {z : S} {d : D} (e : φ[i]? = some (some z)) (k : frS z = some d) (h : BL (φ.set i (some (.fz d))) f m N B R) : BL φ (dFz i f) m N B R := fun env s fl q => by
  obtain ⟨u, q1, q2⟩ := h _ (s.set i (.fz d)) fl q
  refine ⟨u, ?_, q2⟩
  simp only [dFz, frzE, s.gs e, Option.bind_some, k, Option.map_some]
  exact q1
theorem bl_fzsL (i : Nat) {xs : List α} (e : φ[i]? = some (some (olE xs)) := by rfl) (h : BL (φ.set i (some (.fz (en xs)))) (sq f fr) m N B R) : BL φ (sq (dFz i f) fr) m N B R := bl_fzs i e (frS_olE xs) h
theorem bl_fzL (i : Nat) {xs : List α} (e : φ[i]? = some (some (olE xs)) := by rfl) (h : BL (φ.set i (some (.fz (en xs)))) f m N B R) : BL φ (dFz i f) m N B R := bl_fz i e (frS_olE xs) h
theorem bl_fzsF (i : Nat) (e : φ[i]? = some (some (.fz (en a))) := by rfl) (h : BL (φ.set i (some (.fz (en a)))) (sq f fr) m N B R) : BL φ (sq (dFz i f) fr) m N B R := bl_fzs i e rfl h
theorem bl_fzF (i : Nat) (e : φ[i]? = some (some (.fz (en a))) := by rfl) (h : BL (φ.set i (some (.fz (en a)))) f m N B R) : BL φ (dFz i f) m N B R := bl_fz i e rfl h
/-! simple statements -/
theorem ss_set (i : Nat) {o : Option α} (h : EO φ fe o) : SS φ (sSet i fe) o (fun v => φ.set i (some (.fz (en v)))) := fun env s v e => ⟨_, by simp only [sSet, h env s v e, Option.map_some], s.set i _⟩
theorem ss_setL (i : Nat) {fl : VL.Env → Option (List D)} {o : Option (List α)} (h : ELo φ fl o) : SS φ (sSetO i (oL fl)) o (fun v => φ.set i (some (olE v))) := fun env s v e => ⟨env.set i (some (olE v)), by simp only [sSetO, oL, h env s v e, Option.map_some]; rfl, s.set i _⟩
theorem ss_setF (i : Nat) {o : Option α} (h : EO φ fe o) : SS φ (sSetO i (oFz fe)) o (fun v => φ.set i (some (.fz (en v)))) := fun env s v e => ⟨_, by simp only [sSetO, oFz, h env s v e, Option.map_some], s.set i _⟩
theorem ss_setC (i : Nat) {fs : VL.Env → Option (List D)} {ds : List D} {F : List D → Option S} {o : Option τ} {Rs : τ → S} (hs : EA φ fs ds) (k : ∀ r, o = some r → F ds = some (Rs r)) : SS φ (sSetO i (oCall fs F)) o (fun v => φ.set i (some (Rs v))) := fun env s v e => ⟨_, by simp only [sSetO, oCall, hs env s, Option.bind_some, k v e, Option.map_some], s.set i _⟩
theorem ss_setO (i : Nat) {fo : VL.Env → Option S} {z : S} (h : ∀ env, Sat φ env → fo env = some z) : SS φ (sSetO i fo) (some ()) (fun _ => φ.set i (some z)) := fun env s v e => ⟨_, by simp only [sSetO, h env s, Option.map_some], s.set i _⟩
def apT (xs : List α) (x : α) : Option (List α) := if xs.length < sizeLine then some (xs ++ [x]) else none
theorem ss_app (i : Nat) {xs : List α} (e : φ[i]? = some (some (olE xs)) := by rfl) (h : EV φ fe a) : SS φ (sApp i (oFz fe)) (apT xs a) (fun v => φ.set i (some (olE v))) := fun env s v q => by
  unfold apT at q
  split at q
  · rename_i hl
    cases q
    refine ⟨_, ?_, s.set i _⟩
    simp only [sApp, s.gs e, oFz, h env s, Option.bind_some, Option.map_some]
    show (if ((xs.map en).map S.fz).length < sizeLine then _ else _ : Option S).map _ = _
    rw [List.length_map, List.length_map, if_pos hl]
    show some (Out.nx (env.set i (some (S.ol _)))) = some (Out.nx (env.set i (some (S.ol _))))
    rw [List.map_append, List.map_append]; rfl
  · cases q
theorem ss_ext (i : Nat) {xs ys : List α} (e : φ[i]? = some (some (olE xs)) := by rfl) (h : EV φ fe ys) : SS φ (sExt i fe) (addL xs ys) (fun v => φ.set i (some (olE v))) := fun env s v q => by
  unfold addL at q
  split at q
  · rename_i hl
    cases q
    refine ⟨_, ?_, s.set i _⟩
    simp only [sExt, s.gs e, h env s, Option.bind_some, olOf_olE]
    show (if (xs.map en).length + (ys.map en).length ≤ sizeLine then _ else _ : Option Out) = _
    rw [List.length_map, List.length_map, if_pos hl, ← List.map_append]; rfl
  · cases q
def putT {α : Type} (xs : List α) (k : Int) (x : α) : Option (List α) := (ixN xs.length k).map fun j => xs.set j x
theorem ss_putL (i : Nat) {xs : List α} {k : Int} (e : φ[i]? = some (some (olE xs)) := by rfl) (hk : EV φ fk k) (h : EV φ fe a) : SS φ (sPutL i fk fe) (putT xs k a) (fun v => φ.set i (some (olE v))) := fun env s v q => by
  obtain ⟨j, q1, rfl⟩ := Option.map_eq_some_iff.mp q
  refine ⟨_, ?_, s.set i _⟩
  simp only [sPutL, s.gs e, h env s, hk env s, Option.bind_some, olOf_olE]
  show (ixN (xs.map en).length k).map _ = _
  rw [List.length_map, q1]
  show some (Out.nx (env.set i (some (S.ol _)))) = some (Out.nx (env.set i (some (S.ol _))))
  simp only [List.map_set]
theorem ss_aug (i : Nat) {g : Int → Int → Int} {a b : Int} (e : φ[i]? = some (some (.fz (en a))) := by rfl) (h : EV φ fe b) : SS φ (sAug i g fe) (some (g a b)) (fun v => φ.set i (some (.fz (en v)))) := fun env s v q => by
  cases q
  refine ⟨_, ?_, s.set i _⟩
  simp only [sAug, s.fz e, h env s, Option.bind_some]
  rfl
theorem ss_par (i j : Nat) {fs : VL.Env → Option (List D)} (h : EA φ fs [en a, en b]) : SS φ (sPar i j fs) (some (a, b)) (fun t => (φ.set i (some (.fz (en t.1)))).set j (some (.fz (en t.2)))) := fun env s v q => by
  cases q
  exact ⟨_, by simp only [sPar, h env s, Option.bind_some], (s.set i _).set j _⟩
theorem ss_tg {ft : D → VL.Env → Option VL.Env} {o : Option α} {ψ : α → Fs} (h : EO φ fe o) (ht : ∀ v, TG φ ft v (ψ v)) : SS φ (sTg ft fe) o ψ := fun env s v e => by
  obtain ⟨e1, k1, k2⟩ := ht v env s
  exact ⟨e1, by simp only [sTg, h env s v e, Option.bind_some, k1, Option.map_some], k2⟩
/-! loops -/
variable {xs : List α} {s0 : σ'} {body : α → σ' → Option (Flow σ' σ' ρ)} {ψs : σ' → Fs} {ψ1 : α → σ' → Fs} {fi : VL.Env → Option (List D)} {ft : D → VL.Env → Option VL.Env} {fb : VL.Env → Option Out}
def aftD (ft : D → VL.Env → Option VL.Env) (fb : VL.Env → Option Out) (ds : List D) : Out → Option Out
  | .nx e2 => forD ft fb ds e2
  | .ct e2 => forD ft fb ds e2
  | .bk e2 => some (.nx e2)
  | .rt s e2 => some (.rt s e2)
theorem forD_loopT {R : ρ → S → VL.Env → Prop} (ht : ∀ x s, TG (ψs s) ft x (ψ1 x s)) (hb : ∀ x s, BL (ψ1 x s) fb (body x s) (NF ψs) (NF ψs) R) : ∀ (xs : List α) (s : σ') (env : VL.Env), Sat (ψs s) env → ∀ fl : Flow σ' σ ρ, loopT body xs s = some fl → ∃ o, forD ft fb (xs.map en) env = some o ∧ FlOk (NF ψs) B R fl o
  | [], s, env, h, fl, e => by cases e; exact ⟨.nx env, rfl, h⟩
  | x :: xs, s, env, h, fl, e => by
    obtain ⟨fl1, e1, e2⟩ := Option.bind_eq_some_iff.mp (show (body x s).bind _ = _ from e)
    obtain ⟨env1, k1, k2⟩ := ht x s env h
    obtain ⟨u, k3, k4⟩ := hb x s env1 k2 fl1 e1
    have hu : forD ft fb ((x :: xs).map en) env = (fb env1).bind (aftD ft fb (xs.map en)) := by
      show (ft (en x) env).bind _ = _
      rw [k1]; rfl
    rw [hu, k3]
    show ∃ o, aftD ft fb (xs.map en) u = some o ∧ _
    cases fl1 with
    | nx t => cases u with
      | nx e' => exact forD_loopT ht hb xs t e' k4 fl e2
      | _ => exact k4.elim
    | ct t => cases u with
      | ct e' => exact forD_loopT ht hb xs t e' k4 fl e2
      | _ => exact k4.elim
    | bk t => cases u with
      | bk e' => cases e2; exact ⟨.nx e', rfl, k4⟩
      | _ => exact k4.elim
    | rt t => cases u with
      | rt z e' => cases e2; exact ⟨.rt z e', rfl, k4⟩
      | _ => exact k4.elim
theorem bl_for {R : ρ → S → VL.Env → Prop} (hi : EL φ fi xs) (h0 : Le φ (ψs s0)) (ht : ∀ x s, TG (ψs s) ft x (ψ1 x s)) (hb : ∀ x s, BL (ψ1 x s) fb (body x s) (NF ψs) (NF ψs) R) : BL φ (sFor fi ft fb) (loopT body xs s0 : Option (Flow σ' σ ρ)) (NF ψs) B R := fun env s fl e => by
  simp only [sFor, hi env s, Option.bind_some]
  exact forD_loopT ht hb xs s0 env (h0.sat s) fl e
theorem whD_whT {R : ρ → S → VL.Env → Prop} {cc : σ' → Option Bool} {wb : σ' → Option (Flow σ' σ' ρ)} (hc : ∀ s, EBo (ψs s) c (cc s)) (hb : ∀ s, BL (ψs s) fb (wb s) (NF ψs) (NF ψs) R) : ∀ (n : Nat) (s : σ') (env : VL.Env), Sat (ψs s) env → ∀ fl : Flow σ' σ ρ, whT cc wb n s = some fl → ∃ o, whD c fb n env = some o ∧ FlOk (NF ψs) B R fl o
  | 0, s, env, h, fl, e => by cases e
  | n + 1, s, env, h, fl, e => by
    obtain ⟨b, e0, e⟩ := Option.bind_eq_some_iff.mp (show (cc s).bind _ = _ from e)
    have hcb := hc s env h b e0
    show ∃ o, (c env).bind _ = some o ∧ _
    rw [hcb]
    cases b with
    | false =>
      cases e
      exact ⟨.nx env, rfl, h⟩
    | true =>
      obtain ⟨fl1, e1, e2⟩ := Option.bind_eq_some_iff.mp (show (wb s).bind _ = _ from e)
      obtain ⟨u, k3, k4⟩ := hb s env h fl1 e1
      show ∃ o, (fb env).bind _ = some o ∧ _
      rw [k3]
      cases fl1 with
      | nx t => cases u with
        | nx e' => exact whD_whT hc hb n t e' k4 fl e2
        | _ => exact k4.elim
      | ct t => cases u with
        | ct e' => exact whD_whT hc hb n t e' k4 fl e2
        | _ => exact k4.elim
      | bk t => cases u with
        | bk e' => cases e2; exact ⟨.nx e', rfl, k4⟩
        | _ => exact k4.elim
      | rt t => cases u with
        | rt z e' => cases e2; exact ⟨.rt z e', rfl, k4⟩
        | _ => exact k4.elim
theorem bl_wh {R : ρ → S → VL.Env → Prop} {cc : σ' → Option Bool} {wb : σ' → Option (Flow σ' σ' ρ)} {nf : VL.Env → Nat} {n : Nat} (hn : ∀ env, Sat φ env → nf env = n) (h0 : Le φ (ψs s0)) (hc : ∀ s, EBo (ψs s) c (cc s)) (hb : ∀ s, BL (ψs s) fb (wb s) (NF ψs) (NF ψs) R) : BL φ (sWh nf c fb) (whT cc wb n s0 : Option (Flow σ' σ ρ)) (NF ψs) B R := fun env s fl e => by
  simp only [sWh, hn env s]
  exact whD_whT hc hb n s0 env (h0.sat s) fl e
end
/-! ### defs -/
def ansT {ρ : Type} (m : Option (Flow Unit Empty ρ)) : Option ρ := m.bind fun fl => match fl with
  | .rt r => some r
  | _ => none
@[simp] theorem ansT_rt {ρ : Type} (r : ρ) : ansT (some (.rt r)) = some r := rfl
/-- None at the end -/
def ansN {ρ : Type} (d : ρ) (m : Option (Flow Unit Empty ρ)) : Option ρ := m.bind fun fl => match fl with
  | .rt r => some r
  | .nx _ => some d
  | _ => none
theorem fn_r {ρ : Type} {np n : Nat} {fb : VL.Env → Option Out} {ds : List D} {m : Option (Flow Unit Empty ρ)} {Rs : ρ → S} {N : Unit → VL.Env → Prop} {B : Empty → VL.Env → Prop} (hl : ds.length = np) (h : BL (startE n ds) fb m N B (RS Rs)) : ∀ r, ansT m = some r → fnS np n fb ds = some (Rs r) := fun r e => by
  obtain ⟨fl, e1, e2⟩ := Option.bind_eq_some_iff.mp (show m.bind _ = _ from e)
  obtain ⟨u, k1, k2⟩ := h (startE n ds) ⟨rfl, fun _ _ e => e⟩ fl e1
  unfold fnS
  rw [if_pos hl, k1]
  cases fl with
  | rt r' => cases u with
    | rt z e' => cases e2; exact congrArg some k2
    | _ => exact k2.elim
  | _ => cases e2
theorem fn_rN {ρ : Type} {np n : Nat} {fb : VL.Env → Option Out} {ds : List D} {m : Option (Flow Unit Empty ρ)} {Rs : ρ → S} {d : ρ} {N : Unit → VL.Env → Prop} {B : Empty → VL.Env → Prop} (hl : ds.length = np) (hd : Rs d = .fz .non) (h : BL (startE n ds) fb m N B (RS Rs)) : ∀ r, ansN d m = some r → fnS np n fb ds = some (Rs r) := fun r e => by
  obtain ⟨fl, e1, e2⟩ := Option.bind_eq_some_iff.mp (show m.bind _ = _ from e)
  obtain ⟨u, k1, k2⟩ := h (startE n ds) ⟨rfl, fun _ _ e => e⟩ fl e1
  unfold fnS
  rw [if_pos hl, k1]
  cases fl with
  | rt r' => cases u with
    | rt z e' => cases e2; exact congrArg some k2
    | _ => exact k2.elim
  | nx t => cases u with
    | nx e' => cases e2; exact congrArg some hd.symm
    | _ => exact k2.elim
  | _ => cases e2
end TL

set_option Elab.async false
set_option linter.all false
set_option maxRecDepth 100000
/-! TL4: what draws, typed: predicates of what is drawn. -/
namespace TL
open PySem PySem.Spec PyProof.Rows L2 VL
open Ty (en)
abbrev Dr (α : Type) := (α → Prop) → Prop
def ret {α : Type} (a : α) : Dr α := fun Q => Q a
def bnd {α β : Type} (m : Dr α) (k : α → Dr β) : Dr β := fun Q => m fun a => k a Q
def lift {α : Type} (o : Option α) : Dr α := fun Q => ∃ a, o = some a ∧ Q a
def takeT (m : Int) : Dr Int := fun Q => 0 < m ∧ m.natAbs < 2 ^ 64 ∧ ∀ x, 0 ≤ x → x < m → Q x
@[simp] theorem bnd_ret {α β : Type} (a : α) (k : α → Dr β) : bnd (ret a) k = k a := funext fun _ => propext ⟨id, id⟩
@[simp] theorem bnd_bnd {α β γ : Type} (m : Dr α) (k : α → Dr β) (l : β → Dr γ) : bnd (bnd m k) l = bnd m fun a => bnd (k a) l := funext fun _ => propext ⟨id, id⟩
@[simp] theorem lift_some {α : Type} (a : α) : lift (some a) = ret a := by
  funext Q
  exact propext ⟨fun ⟨_, e, q⟩ => by cases e; exact q, fun q => ⟨a, rfl, q⟩⟩
theorem lift_of {α : Type} {o : Option α} {a : α} {Q : α → Prop} (e : o = some a) (q : Q a) : lift o Q := ⟨a, e, q⟩
/-- what is left of the draws -/
structure DSt where
  n : Int
  cs : List Int
  h : cs ≠ []
def atS (p : Addr) (st : DSt) : S := .at p (stS st.n st.cs)
abbrev Fs2 := DSt → Fs
def GM {T τ : Type} (φ : Fs2) (R : τ → T) (f : Mo T) (m : Dr τ) : Prop :=
  ∀ env st, Sat (φ st) env → ∀ Q : τ → Prop, m Q → ∃ v env' st', f env = some (R v, env') ∧ Sat (φ st') env' ∧ Q v
def BM {τ σ ρ : Type} (φ : Fs2) (f : VL.Env → Option Out) (m : Dr (Flow τ σ ρ)) (N : τ → VL.Env → Prop) (B : σ → VL.Env → Prop) (R : ρ → S → VL.Env → Prop) : Prop :=
  ∀ env st, Sat (φ st) env → ∀ Q, m Q → ∃ o fl, f env = some o ∧ FlOk N B R fl o ∧ Q fl
def SM {τ : Type} (φ : Fs2) (f : VL.Env → Option Out) (m : Dr τ) (ψ : τ → Fs2) : Prop :=
  ∀ env st, Sat (φ st) env → ∀ Q : τ → Prop, m Q → ∃ v env' st', f env = some (.nx env') ∧ Sat (ψ v st') env' ∧ Q v
def NM {τ : Type} (ψ : τ → Fs2) : τ → VL.Env → Prop := fun t e => ∃ st, Sat (ψ t st) e
def bndF {τ τ' σ ρ : Type} (m : Dr (Flow τ σ ρ)) (k : τ → Dr (Flow τ' σ ρ)) : Dr (Flow τ' σ ρ) := fun Q => m fun fl => match fl with
  | .nx t => k t Q
  | .bk s => Q (.bk s)
  | .ct s => Q (.ct s)
  | .rt r => Q (.rt r)
@[simp] theorem bndF_nx {τ τ' σ ρ : Type} (t : τ) (k : τ → Dr (Flow τ' σ ρ)) : bndF (ret (.nx t)) k = k t := rfl
@[simp] theorem bndF_rt {τ τ' σ ρ : Type} (t : ρ) (k : τ → Dr (Flow τ' σ ρ)) : bndF (ret (.rt t)) k = ret (.rt t) := rfl
def loopDr {α σ σ' ρ : Type} (body : α → σ → Dr (Flow σ σ ρ)) : List α → σ → Dr (Flow σ σ' ρ)
  | [], s => ret (.nx s)
  | x :: xs, s => fun Q => body x s fun fl => match fl with
    | .nx s => loopDr body xs s Q
    | .ct s => loopDr body xs s Q
    | .bk s => Q (.nx s)
    | .rt r => Q (.rt r)
def compDr {α β : Type} (c : α → Dr Bool) (g : α → Dr β) : List α → Dr (List β)
  | [] => ret []
  | x :: xs => bnd (c x) fun b => if b = true then bnd (g x) fun y => bnd (compDr c g xs) fun ys => ret (y :: ys) else compDr c g xs
/-- monotone -/
def Mono {α : Type} (m : Dr α) : Prop := ∀ {Q R : α → Prop}, (∀ a, Q a → R a) → m Q → m R
section
variable {α β γ : Type} [Ty α] [Ty β] [Ty γ] {τ τ' σ σ' ρ T T' : Type} {φ : Fs2}
theorem gm_pur {R : τ → T} {f : VL.Env → Option T} {v : τ} (h : ∀ st, GJ (φ st) R f v) : GM φ R (pur f) (ret v) := fun env st s Q q => ⟨v, env, st, by simp only [pur, h st env s, Option.map_some], s, q⟩
theorem gm_puro {R : τ → T} {f : VL.Env → Option T} {o : Option τ} (h : ∀ st, GO (φ st) R f o) : GM φ R (pur f) (lift o) := fun env st s Q ⟨v, e, q⟩ => ⟨v, env, st, by simp only [pur, h st env s v e, Option.map_some], s, q⟩
theorem gm_eq {R : τ → T} {f : Mo T} {m : Dr τ} {R' : τ' → T} {w : τ → τ'} (h : GM φ R f m) (e : ∀ v, R v = R' (w v)) : GM φ R' f (bnd m fun v => ret (w v)) := fun env st s Q q => by
  obtain ⟨v, env', st', h1, h2, h3⟩ := h env st s _ q
  exact ⟨w v, env', st', by rw [h1, e], h2, h3⟩
theorem gm_d {f : Mo D} {m : Dr α} (h : GM φ en f m) : GM φ (fun d : D => d) f (bnd m fun v => ret (en v)) := gm_eq h fun v => rfl
theorem gm_2 {fa fb : Mo D} {g : D → D → Option D} {ma : Dr α} {mb : Dr β} {r : α → β → γ} (ha : GM φ en fa ma) (hb : GM φ en fb mb) (k : ∀ a b, O2 g a b (r a b)) : GM φ en (m2 fa fb g) (bnd ma fun a => bnd mb fun b => ret (r a b)) := fun env st s Q q => by
  obtain ⟨a, e1, s1, h1, h2, h3⟩ := ha env st s _ q
  obtain ⟨b, e2, s2, h4, h5, h6⟩ := hb e1 s1 h2 _ h3
  have := k a b
  exact ⟨_, e2, s2, by simp only [m2, h1, h4, Option.bind_some, show g (en a) (en b) = some (en (r a b)) from k a b, Option.map_some], h5, h6⟩
theorem gm_2o {fa fb : Mo D} {g : D → D → Option D} {ma : Dr α} {mb : Dr β} {r : α → β → Option γ} (ha : GM φ en fa ma) (hb : GM φ en fb mb) (k : ∀ a b, O2o g a b (r a b)) : GM φ en (m2 fa fb g) (bnd ma fun a => bnd mb fun b => lift (r a b)) := fun env st s Q q => by
  obtain ⟨a, e1, s1, h1, h2, h3⟩ := ha env st s _ q
  obtain ⟨b, e2, s2, h4, h5, ⟨v, h6, h7⟩⟩ := hb e1 s1 h2 _ h3
  exact ⟨_, e2, s2, by simp only [m2, h1, h4, Option.bind_some, k a b v h6, Option.map_some], h5, h7⟩
theorem gm_tb {f : Mo D} {m : Dr Bool} (h : GM φ en f m) : GM φ (fun b : Bool => b) (mtb f) m := fun env st s Q q => by
  obtain ⟨a, e1, s1, h1, h2, h3⟩ := h env st s _ q
  exact ⟨a, e1, s1, by simp only [mtb, h1, Option.bind_some]; rfl, h2, h3⟩
section
variable {f g : Mo Bool} {ma mb : Dr Bool}
theorem gm_and (ha : GM φ (fun b : Bool => b) f ma) (hb : GM φ (fun b : Bool => b) g mb) : GM φ (fun b : Bool => b) (mAnd f g) (bnd ma fun a => if a = true then mb else ret false) := fun env st s Q q => by
  obtain ⟨a, e1, s1, h1, h2, h3⟩ := ha env st s _ q
  cases a
  · exact ⟨false, e1, s1, by simp only [mAnd, h1, Option.bind_some]; rfl, h2, h3⟩
  · obtain ⟨b, e2, s2, h4, h5, h6⟩ := hb e1 s1 h2 _ h3
    exact ⟨b, e2, s2, by simp only [mAnd, h1, Option.bind_some, if_true, h4], h5, h6⟩
theorem gm_or (ha : GM φ (fun b : Bool => b) f ma) (hb : GM φ (fun b : Bool => b) g mb) : GM φ (fun b : Bool => b) (mOr f g) (bnd ma fun a => if a = true then ret true else mb) := fun env st s Q q => by
  obtain ⟨a, e1, s1, h1, h2, h3⟩ := ha env st s _ q
  cases a
  · obtain ⟨b, e2, s2, h4, h5, h6⟩ := hb e1 s1 h2 _ h3
    exact ⟨b, e2, s2, by simp only [mOr, h1, Option.bind_some]; exact h4, h5, h6⟩
  · exact ⟨true, e1, s1, by simp only [mOr, h1, Option.bind_some, if_true], h2, h3⟩
theorem gm_not (ha : GM φ (fun b : Bool => b) f ma) : GM φ (fun b : Bool => b) (mNot f) (bnd ma fun a => ret (!a)) := fun env st s Q q => by
  obtain ⟨a, e1, s1, h1, h2, h3⟩ := ha env st s _ q
  exact ⟨_, e1, s1, by simp only [mNot, h1, Option.map_some], h2, h3⟩
theorem gm_if {p q : Mo D} {mp mq : Dr α} (ha : GM φ (fun b : Bool => b) f ma) (hp : GM φ en p mp) (hq : GM φ en q mq) : GM φ en (mIf f p q) (bnd ma fun a => if a = true then mp else mq) := fun env st s Q q => by
  obtain ⟨a, e1, s1, h1, h2, h3⟩ := ha env st s _ q
  cases a
  · obtain ⟨b, e2, s2, h4, h5, h6⟩ := hq e1 s1 h2 _ h3
    exact ⟨b, e2, s2, by simp only [mIf, h1, Option.bind_some]; exact h4, h5, h6⟩
  · obtain ⟨b, e2, s2, h4, h5, h6⟩ := hp e1 s1 h2 _ h3
    exact ⟨b, e2, s2, by simp only [mIf, h1, Option.bind_some, if_true]; exact h4, h5, h6⟩
end
/-! arguments, calls -/
theorem ma_nil : GM φ (fun _ : Unit => ([] : List D)) mA0 (ret ()) := fun env st s Q q => ⟨(), env, st, rfl, s, q⟩
theorem ma_cons {f : Mo D} {fs : Mo (List D)} {ma : Dr α} {mb : Dr τ} {ds : τ → List D} (ha : GM φ en f ma) (hb : GM φ ds fs mb) : GM φ (fun t : α × τ => en t.1 :: ds t.2) (maC f fs) (bnd ma fun a => bnd mb fun t => ret (a, t)) := fun env st s Q q => by
  obtain ⟨a, e1, s1, h1, h2, h3⟩ := ha env st s _ q
  obtain ⟨b, e2, s2, h4, h5, h6⟩ := hb e1 s1 h2 _ h3
  exact ⟨(a, b), e2, s2, by simp only [maC, h1, h4, Option.bind_some, Option.map_some], h5, h6⟩
theorem gm_tup {fs : Mo (List D)} {m : Dr τ} {ds : τ → List D} {v : τ → α} (h : GM φ ds fs m) (e : ∀ t, D.tup (ds t) = en (v t)) (l : ∀ t, (ds t).length < 1000) : GM φ en (mTup fs) (bnd m fun t => ret (v t)) := fun env st s Q q => by
  obtain ⟨a, e1, s1, h1, h2, h3⟩ := h env st s _ q
  exact ⟨_, e1, s1, by simp only [mTup, h1, Option.bind_some, if_pos (l a), e a], h2, h3⟩
theorem gm_lst {fs : Mo (List D)} {m : Dr τ} {ds : τ → List D} {v : τ → α} (h : GM φ ds fs m) (e : ∀ t, D.lst (ds t) = en (v t)) (l : ∀ t, (ds t).length < 1000) : GM φ en (mLst fs) (bnd m fun t => ret (v t)) := fun env st s Q q => by
  obtain ⟨a, e1, s1, h1, h2, h3⟩ := h env st s _ q
  exact ⟨_, e1, s1, by simp only [mLst, h1, Option.bind_some, if_pos (l a), e a], h2, h3⟩
theorem gm_B {fs : Mo (List D)} {m : Dr τ} {ds : τ → List D} {g : List D → Option T} {R : τ' → T} {v : τ → τ'} (h : GM φ ds fs m) (e : ∀ t, g (ds t) = some (R (v t))) : GM φ R (mB fs g) (bnd m fun t => ret (v t)) := fun env st s Q q => by
  obtain ⟨a, e1, s1, h1, h2, h3⟩ := h env st s _ q
  exact ⟨_, e1, s1, by simp only [mB, h1, Option.bind_some, e a, Option.map_some], h2, h3⟩
theorem gm_Bo {fs : Mo (List D)} {m : Dr τ} {ds : τ → List D} {g : List D → Option T} {R : τ' → T} {o : τ → Option τ'} (h : GM φ ds fs m) (e : ∀ t c, o t = some c → g (ds t) = some (R c)) : GM φ R (mB fs g) (bnd m fun t => lift (o t)) := fun env st s Q q => by
  obtain ⟨a, e1, s1, h1, h2, ⟨c, h3, h4⟩⟩ := h env st s _ q
  exact ⟨c, e1, s1, by simp only [mB, h1, Option.bind_some, e a c h3, Option.map_some], h2, h4⟩
theorem gm_call {fs : Mo (List D)} {m : Dr τ} {ds : τ → List D} {F : List D → Option S} {o : τ → Option α} (h : GM φ ds fs m) (k : ∀ t r, o t = some r → ∃ s, F (ds t) = some s ∧ frS s = some (en r)) : GM φ en (mCall fs F) (bnd m fun t => lift (o t)) :=
  gm_Bo h fun t c e => by
    obtain ⟨z, k1, k2⟩ := k t c e
    show (F (ds t)).bind frS = _
    rw [k1]
    exact k2
/-! draws -/
theorem gm_take (i : Nat) {p : Addr} {fs : Mo (List D)} {m : Dr τ} {ds : τ → List D} {v : τ → Int} (h : GM φ ds fs m) (e : ∀ t, ds t = [en (v t)]) (hs : ∀ st, (φ st)[i]? = some (some (atS p st)) := by intro st; rfl) (hu : ∀ st st', (φ st).set i (some (atS p st')) = φ st' := by intro st st'; rfl) :
    GM φ en (mI i fs takeS) (bnd m fun t => takeT (v t)) := fun env st s Q q => by
  obtain ⟨a, e1, s1, h1, h2, h3, h4, h5⟩ := h env st s _ q
  have g1 := s1
  have gs0 : getS env i = some (atS p st) := s.gs (hs st)
  have gs1 : getS e1 i = some (atS p s1) := h2.gs (hs s1)
  have hn := (takeF_ne (n := s1.n) (m := v a) s1.h)
  refine ⟨(takeF s1.n s1.cs (v a)).1, e1.set i (some (atS p ⟨(takeF s1.n s1.cs (v a)).2.1, (takeF s1.n s1.cs (v a)).2.2, hn⟩)), ⟨(takeF s1.n s1.cs (v a)).2.1, (takeF s1.n s1.cs (v a)).2.2, hn⟩, ?_, ?_, h5 _ (takeF_lt h3).1 (takeF_lt h3).2⟩
  · simp only [mI, gs0, h1, gs1, Option.bind_some, e a]
    show (atOf (.at p (stS s1.n s1.cs))).bind _ = _
    simp only [atOf_at, Option.bind_some]
    show (takeS p (stS s1.n s1.cs) [.int (v a)]).map _ = _
    rw [takeS_eq h3 h4 s1.h]
    rfl
  · have := h2.set i (atS p ⟨(takeF s1.n s1.cs (v a)).2.1, (takeF s1.n s1.cs (v a)).2.2, hn⟩)
    rwa [hu] at this
/-- a def that draws -/
def IOk (I : Addr → S → List D → Option (D × S)) (ds : List D) (m : Dr α) : Prop := ∀ (p : Addr) (st : DSt) (Q : α → Prop), m Q → ∃ (r : α) (st' : DSt), I p (stS st.n st.cs) ds = some (en r, stS st'.n st'.cs) ∧ Q r
theorem gm_I (i : Nat) {p : Addr} {fs : Mo (List D)} {m : Dr τ} {ds : τ → List D} {I : Addr → S → List D → Option (D × S)} {w : τ → Dr α} (h : GM φ ds fs m) (k : ∀ t, IOk I (ds t) (w t)) (hs : ∀ st, (φ st)[i]? = some (some (atS p st)) := by intro st; rfl) (hu : ∀ st st', (φ st).set i (some (atS p st')) = φ st' := by intro st st'; rfl) :
    GM φ en (mI i fs I) (bnd m w) := fun env st s Q q => by
  obtain ⟨a, e1, s1, h1, h2, h3⟩ := h env st s _ q
  have gs0 : getS env i = some (atS p st) := s.gs (hs st)
  have gs1 : getS e1 i = some (atS p s1) := h2.gs (hs s1)
  obtain ⟨r, s2, h4, h5⟩ := k a p s1 Q h3
  refine ⟨r, e1.set i (some (atS p s2)), s2, ?_, ?_, h5⟩
  · simp only [mI, gs0, h1, gs1, Option.bind_some]
    show (atOf (.at p (stS s1.n s1.cs))).bind _ = _
    simp only [atOf_at, Option.bind_some, h4, Option.map_some]
    rfl
  · have := h2.set i (atS p s2)
    rwa [hu] at this
/-! comprehensions that draw -/
theorem compM_compDr {vs : List Nat} {ft : D → VL.Env → Option VL.Env} {fc : Mo Bool} {fe : Mo D} {φ' : Fs2} {φ1 : α → Fs2} {cc : α → Dr Bool} {gg : α → Dr β} (ht : ∀ x st, TG (φ' st) ft x (φ1 x st)) (hw : ∀ x st, Le (wipeF (φ1 x st) vs) (φ' st)) (hc : ∀ x, GM (φ1 x) (fun b : Bool => b) fc (cc x)) (he : ∀ x, GM (φ1 x) en fe (gg x)) :
    ∀ (xs : List α) (env : VL.Env) (st : DSt), Sat (φ' st) env → ∀ Q : List β → Prop, compDr cc gg xs Q → ∃ (ys : List β) (env' : VL.Env) (st' : DSt), compM vs ft fc fe (xs.map en) env = some (ys.map en, env') ∧ Sat (φ' st') env' ∧ Q ys
  | [], env, st, s, Q, q => ⟨[], env, st, rfl, s, q⟩
  | x :: xs, env, st, s, Q, q => by
    obtain ⟨e1, k1, k2⟩ := ht x st env s
    obtain ⟨b, e2, s2, h1, h2, h3⟩ := hc x e1 st k2 _ q
    show ∃ (ys : List β) (env' : VL.Env) (st' : DSt), (ft (en x) env).bind _ = some (ys.map en, env') ∧ _
    rw [k1]
    show ∃ (ys : List β) (env' : VL.Env) (st' : DSt), (fc e1).bind _ = some (ys.map en, env') ∧ _
    rw [h1]
    cases b with
    | false =>
      have h3 : compDr cc gg xs Q := h3
      exact compM_compDr ht hw hc he xs (wipeE e2 vs) s2 ((hw x s2).sat (h2.wipe vs)) Q h3
    | true =>
      have h3 : gg x (fun y => bnd (compDr cc gg xs) (fun ys => ret (y :: ys)) Q) := h3
      obtain ⟨y, e3, s3, h4, h5, h6⟩ := he x e2 s2 h2 _ h3
      have h6 : compDr cc gg xs (fun ys => Q (y :: ys)) := h6
      obtain ⟨ys, e4, s4, h7, h8, h9⟩ := compM_compDr ht hw hc he xs (wipeE e3 vs) s3 ((hw x s3).sat (h5.wipe vs)) _ h6
      refine ⟨y :: ys, e4, s4, ?_, h8, h9⟩
      show (fe e2).bind _ = _
      rw [h4]
      show (compM vs ft fc fe (xs.map en) (wipeE e3 vs)).map _ = _
      rw [h7]; rfl
theorem gm_comp {vs : List Nat} {fi : Mo (List D)} {ft : D → VL.Env → Option VL.Env} {fc : Mo Bool} {fe : Mo D} {φ1 : α → Fs2} {mi : Dr (List α)} {cc : α → Dr Bool} {gg : α → Dr β} (hi : GM φ (List.map en) fi mi) (h0 : ∀ st, Le (wipeF (φ st) vs) (φ st)) (ht : ∀ x st, TG (φ st) ft x (φ1 x st)) (hw : ∀ x st, Le (wipeF (φ1 x st) vs) (φ st))
    (hc : ∀ x, GM (φ1 x) (fun b : Bool => b) fc (cc x)) (he : ∀ x, GM (φ1 x) en fe (gg x)) : GM φ (en : List β → D) (mComp vs fi ft fc fe) (bnd mi fun xs => compDr cc gg xs) := fun env st s Q q => by
  obtain ⟨xs, e1, s1, h1, h2, h3⟩ := hi env st s _ q
  obtain ⟨ys, e2, s2, h4, h5, h6⟩ := compM_compDr ht hw hc he xs (wipeE e1 vs) s1 ((h0 s1).sat (h2.wipe vs)) Q h3
  exact ⟨ys, e2, s2, by simp only [mComp, h1, Option.bind_some, h4, Option.map_some]; rfl, h5, h6⟩
theorem gm_mY : GM φ (fun b : Bool => b) mY (ret true) := fun env st s Q q => ⟨true, env, st, rfl, s, q⟩
theorem gm_sq {f : Mo D} {m : Dr (List α)} (h : GM φ en f m) : GM φ (List.map en) (mSq f) m := fun env st s Q q => by
  obtain ⟨xs, e1, s1, h1, h2, h3⟩ := h env st s _ q
  exact ⟨xs, e1, s1, by simp only [mSq, h1, Option.bind_some]; rfl, h2, h3⟩
theorem gm_r1 {fs : Mo (List D)} {m : Dr τ} {ds : τ → List D} {v : τ → Int} (h : GM φ ds fs m) (e : ∀ t, ds t = [en (v t)]) : GM φ (List.map en) (mB fs rng1) (bnd m fun t => lift (rngT (v t))) := gm_Bo h fun t c q => by
  rw [e]
  unfold rngT at q
  split at q
  · rename_i hn
    cases q
    refine (rng1_int hn).trans ?_
    rw [rangeT_en, Int.sub_zero]
  · cases q
/-! statements -/
variable {f fr fA fB : VL.Env → Option Out} {m mA mB : Dr (Flow τ σ ρ)} {N : τ → VL.Env → Prop} {B : σ → VL.Env → Prop} {R : ρ → S → VL.Env → Prop}
theorem nm {ψ : τ → Fs2} {t : τ} {φ : Fs} (st : DSt) (h : Le φ (ψ t st)) : ∀ env, Sat φ env → NM ψ t env := fun env s => ⟨st, h.sat s⟩
theorem bm_bl {m : Option (Flow τ σ ρ)} (h : ∀ st, BL (φ st) f m N B R) : BM φ f (lift m) N B R := fun env st s Q ⟨fl, e, q⟩ => by
  obtain ⟨o, h1, h2⟩ := h st env s fl e
  exact ⟨o, fl, h1, h2, q⟩
theorem bm_blr {fl : Flow τ σ ρ} (h : ∀ st, BL (φ st) f (some fl) N B R) : BM φ f (ret fl) N B R := fun env st s Q q => by
  obtain ⟨o, h1, h2⟩ := h st env s fl rfl
  exact ⟨o, fl, h1, h2, q⟩
theorem sm_ss {o : Option τ} {ψ : τ → Fs2} (h : ∀ st, SS (φ st) f o (fun t => ψ t st)) : SM φ f (lift o) ψ := fun env st s Q ⟨v, e, q⟩ => by
  obtain ⟨e1, h1, h2⟩ := h st env s v e
  exact ⟨v, e1, st, h1, h2, q⟩
theorem sm_set (i : Nat) {fe : Mo D} {m : Dr α} (h : GM φ en fe m) : SM φ (sSetM i fe) m (fun v st => (φ st).set i (some (.fz (en v)))) := fun env st s Q q => by
  obtain ⟨v, e1, s1, h1, h2, h3⟩ := h env st s Q q
  exact ⟨v, _, s1, by simp only [sSetM, h1, Option.map_some], h2.set i _, h3⟩
theorem sm_tg {fe : Mo D} {ft : D → VL.Env → Option VL.Env} {m : Dr α} {ψ : α → Fs2} (h : GM φ en fe m) (ht : ∀ v st, TG (φ st) ft v (ψ v st)) : SM φ (sTgM ft fe) m ψ := fun env st s Q q => by
  obtain ⟨v, e1, s1, h1, h2, h3⟩ := h env st s Q q
  obtain ⟨e2, h4, h5⟩ := ht v s1 e1 h2
  exact ⟨v, e2, s1, by simp only [sTgM, h1, Option.bind_some, h4, Option.map_some], h5, h3⟩
theorem sm_par (i j : Nat) {fs : Mo (List D)} {m : Dr τ} {ds : τ → List D} {u : τ → α} {v : τ → β} (h : GM φ ds fs m) (e : ∀ t, ds t = [en (u t), en (v t)]) : SM φ (sParM i j fs) m (fun t st => ((φ st).set i (some (.fz (en (u t))))).set j (some (.fz (en (v t))))) := fun env st s Q q => by
  obtain ⟨t, e1, s1, h1, h2, h3⟩ := h env st s Q q
  exact ⟨t, _, s1, by simp only [sParM, h1, Option.bind_some, e t], (h2.set i _).set j _, h3⟩
theorem sm_app (i : Nat) {fe : Mo D} {m : Dr α} {xs : List α} (e : ∀ st, (φ st)[i]? = some (some (olE xs)) := by intro st; rfl) (h : GM φ en fe m) : SM φ (sAppM i fe) (bnd m fun v => lift (apT xs v)) (fun v st => (φ st).set i (some (olE v))) := fun env st s Q q => by
  obtain ⟨a, e1, s1, h1, h2, v, h3, h4⟩ := h env st s _ q
  unfold apT at h3
  split at h3
  · rename_i hl
    cases h3
    refine ⟨_, e1.set i (some (olE (xs ++ [a]))), s1, ?_, h2.set i _, h4⟩
    simp only [sAppM, s.gs (e st), olOf_olE, Option.bind_some, h1, h2.gs (e s1), List.length_map, if_pos hl]
    show some (Out.nx (e1.set i (some (S.ol _)))) = some (Out.nx (e1.set i (some (S.ol _))))
    simp only [List.map_append, List.map_cons, List.map_nil]
  · cases h3
theorem sm_putL (i : Nat) {fe : Mo D} {fk : VL.Env → Option D} {m : Dr α} {xs : List α} {k : Int} (e : ∀ st, (φ st)[i]? = some (some (olE xs)) := by intro st; rfl) (hk : ∀ st, EV (φ st) fk k) (h : GM φ en fe m) : SM φ (sPutLM i fk fe) (bnd m fun v => lift (putT xs k v)) (fun v st => (φ st).set i (some (olE v))) := fun env st s Q q => by
  obtain ⟨a, e1, s1, h1, h2, v, h3, h4⟩ := h env st s _ q
  obtain ⟨j, q1, rfl⟩ := Option.map_eq_some_iff.mp h3
  refine ⟨_, e1.set i (some (olE (xs.set j a))), s1, ?_, h2.set i _, h4⟩
  simp only [sPutLM, h1, Option.bind_some, h2.gs (e s1), olOf_olE, hk s1 e1 h2]
  show (ixN (xs.map en).length k).map _ = _
  rw [List.length_map, q1]
  show some (Out.nx (e1.set i (some (S.ol _)))) = some (Out.nx (e1.set i (some (S.ol _))))
  simp only [List.map_set]
theorem bm_sm {m : Dr τ'} {ψ : τ' → Fs2} {k : τ' → Dr (Flow τ σ ρ)} (h : SM φ f m ψ) (hk : ∀ t, BM (ψ t) fr (k t) N B R) : BM φ (sq f fr) (bnd m k) N B R := fun env st s Q q => by
  obtain ⟨t, e1, s1, h1, h2, h3⟩ := h env st s _ q
  obtain ⟨o, fl, h4, h5, h6⟩ := hk t e1 s1 h2 Q h3
  exact ⟨o, fl, by simp only [sq, h1, Option.bind_some]; exact h4, h5, h6⟩
theorem bm_sml {m : Dr τ'} {ψ : τ' → Fs2} {k : τ' → Dr (Flow τ σ ρ)} (h : SM φ f m ψ) (hk : ∀ t, BM (ψ t) sNx (k t) N B R) : BM φ f (bnd m k) N B R := by
  rw [← sq_nx f]
  exact bm_sm h hk
theorem bm_seq {m1 : Dr (Flow τ' σ ρ)} {ψ : τ' → Fs2} {k : τ' → Dr (Flow τ σ ρ)} (h : BM φ f m1 (NM ψ) B R) (hk : ∀ t, BM (ψ t) fr (k t) N B R) : BM φ (sq f fr) (bndF m1 k) N B R := fun env st s Q q => by
  obtain ⟨u, fl, h1, h2, h3⟩ := h env st s _ q
  cases fl with
  | nx t => cases u with
    | nx env' =>
      obtain ⟨s', h2⟩ := h2
      obtain ⟨o, fl, h4, h5, h6⟩ := hk t env' s' h2 Q h3
      exact ⟨o, fl, by simp only [sq, h1, Option.bind_some]; exact h4, h5, h6⟩
    | _ => exact h2.elim
  | bk t => cases u with
    | bk env' => exact ⟨.bk env', .bk t, by simp only [sq, h1, Option.bind_some], h2, h3⟩
    | _ => exact h2.elim
  | ct t => cases u with
    | ct env' => exact ⟨.ct env', .ct t, by simp only [sq, h1, Option.bind_some], h2, h3⟩
    | _ => exact h2.elim
  | rt t => cases u with
    | rt z env' => exact ⟨.rt z env', .rt t, by simp only [sq, h1, Option.bind_some], h2, h3⟩
    | _ => exact h2.elim
theorem bm_seql {m1 : Dr (Flow τ' σ ρ)} {ψ : τ' → Fs2} {k : τ' → Dr (Flow τ σ ρ)} (h : BM φ f m1 (NM ψ) B R) (hk : ∀ t, BM (ψ t) sNx (k t) N B R) : BM φ f (bndF m1 k) N B R := by
  rw [← sq_nx f]
  exact bm_seq h hk
theorem bm_skip (h : BM φ fr m N B R) : BM φ (sq sNx fr) m N B R := h
theorem bm_ret {fe : Mo D} {m : Dr α} {r : α → ρ} (h : GM φ en fe m) (k : ∀ v st env, Sat (φ st) env → R (r v) (.fz (en v)) env) : BM φ (sRetM fe) (bnd m fun v => ret (.rt (r v)) : Dr (Flow τ σ ρ)) N B R := fun env st s Q q => by
  obtain ⟨v, e1, s1, h1, h2, h3⟩ := h env st s _ q
  exact ⟨.rt (.fz (en v)) e1, .rt (r v), by simp only [sRetM, h1, Option.map_some], k v s1 e1 h2, h3⟩
section
variable {c : VL.Env → Option Bool} {t : Bool}
theorem bm_if (hc : ∀ st, EB (φ st) c t) (hA : BM φ fA mA N B R) (hB : BM φ fB mB N B R) : BM φ (sIf c fA fB) (if t = true then mA else mB) N B R := fun env st s Q q => by
  simp only [sIf, hc st env s, Option.bind_some]
  cases t
  · exact hB env st s Q q
  · exact hA env st s Q q
theorem bm_ends {u : VL.Env → Option Out} {env : VL.Env} {fl : Flow τ σ ρ} {o : Out} {Q : Flow τ σ ρ → Prop} (h1 : f env = some o) (h2 : FlOk never B R fl o) (h3 : Q fl) : ∃ o fl, sq f fr env = some o ∧ FlOk N B R fl o ∧ Q fl := by
  cases fl with
  | nx t => cases o <;> exact h2.elim
  | bk t => cases o with
    | bk env' => exact ⟨.bk env', .bk t, by simp only [sq, h1, Option.bind_some], h2, h3⟩
    | _ => exact h2.elim
  | ct t => cases o with
    | ct env' => exact ⟨.ct env', .ct t, by simp only [sq, h1, Option.bind_some], h2, h3⟩
    | _ => exact h2.elim
  | rt t => cases o with
    | rt z env' => exact ⟨.rt z env', .rt t, by simp only [sq, h1, Option.bind_some], h2, h3⟩
    | _ => exact h2.elim
theorem bm_ifA (hc : ∀ st, EB (φ st) c t) (hA : BM φ fA mA never B R) (hB : BM φ (sq fB fr) mB N B R) : BM φ (sq (sIf c fA fB) fr) (if t = true then mA else mB) N B R := fun env st s Q q => by
  cases t
  · obtain ⟨o, fl, h1, h2, h3⟩ := hB env st s Q q
    exact ⟨o, fl, by simp only [sq, sIf, hc st env s, Option.bind_some]; exact h1, h2, h3⟩
  · obtain ⟨o, fl, h1, h2, h3⟩ := hA env st s Q q
    exact bm_ends (f := sIf c fA fB) (u := fA) (by simp only [sIf, hc st env s, Option.bind_some, if_true, h1]) h2 h3
theorem bm_ifB (hc : ∀ st, EB (φ st) c t) (hA : BM φ (sq fA fr) mA N B R) (hB : BM φ fB mB never B R) : BM φ (sq (sIf c fA fB) fr) (if t = true then mA else mB) N B R := fun env st s Q q => by
  cases t
  · obtain ⟨o, fl, h1, h2, h3⟩ := hB env st s Q q
    exact bm_ends (f := sIf c fA fB) (u := fB) (by simp only [sIf, hc st env s, Option.bind_some, h1]; rfl) h2 h3
  · obtain ⟨o, fl, h1, h2, h3⟩ := hA env st s Q q
    exact ⟨o, fl, by simp only [sq, sIf, hc st env s, Option.bind_some]; exact h1, h2, h3⟩
/-- a test that may fail ahead of a statement -/
theorem bm_bind {τ1 : Type} {R' : τ1 → T} {g : VL.Env → Option T} {o : Option τ1} {k : τ1 → Dr (Flow τ σ ρ)} (hg : ∀ st, GO (φ st) R' g o) (h : ∀ v, (∀ st, GJ (φ st) R' g v) → BM φ f (k v) N B R) : BM φ f (bnd (lift o) k) N B R := fun env st s Q ⟨x, e1, e2⟩ =>
  h x (fun st' env' s' => hg st' env' s' x e1) env st s Q e2
end
section
variable {c : Mo Bool} {mc : Dr Bool}
theorem bm_ifM (hc : GM φ (fun b : Bool => b) c mc) (hA : BM φ fA mA N B R) (hB : BM φ fB mB N B R) : BM φ (sIfM c fA fB) (bnd mc fun t => if t = true then mA else mB) N B R := fun env st s Q q => by
  obtain ⟨b, e1, s1, h1, h2, h3⟩ := hc env st s _ q
  simp only [sIfM, h1, Option.bind_some]
  cases b
  · exact hB e1 s1 h2 Q h3
  · exact hA e1 s1 h2 Q h3
theorem bm_ifMA (hc : GM φ (fun b : Bool => b) c mc) (hA : BM φ fA mA never B R) (hB : BM φ (sq fB fr) mB N B R) : BM φ (sq (sIfM c fA fB) fr) (bnd mc fun t => if t = true then mA else mB) N B R := fun env st s Q q => by
  obtain ⟨b, e1, s1, h1, h2, h3⟩ := hc env st s _ q
  cases b
  · obtain ⟨o, fl, h4, h5, h6⟩ := hB e1 s1 h2 Q h3
    exact ⟨o, fl, by simp only [sq, sIfM, h1, Option.bind_some]; exact h4, h5, h6⟩
  · obtain ⟨o, fl, h4, h5, h6⟩ := hA e1 s1 h2 Q h3
    exact bm_ends (f := sIfM c fA fB) (u := fA) (by simp only [sIfM, h1, Option.bind_some, if_true, h4]) h5 h6
theorem bm_ifMB (hc : GM φ (fun b : Bool => b) c mc) (hA : BM φ (sq fA fr) mA N B R) (hB : BM φ fB mB never B R) : BM φ (sq (sIfM c fA fB) fr) (bnd mc fun t => if t = true then mA else mB) N B R := fun env st s Q q => by
  obtain ⟨b, e1, s1, h1, h2, h3⟩ := hc env st s _ q
  cases b
  · obtain ⟨o, fl, h4, h5, h6⟩ := hB e1 s1 h2 Q h3
    exact bm_ends (f := sIfM c fA fB) (u := fB) (by simp only [sIfM, h1, Option.bind_some, h4]; rfl) h5 h6
  · obtain ⟨o, fl, h4, h5, h6⟩ := hA e1 s1 h2 Q h3
    exact ⟨o, fl, by simp only [sq, sIfM, h1, Option.bind_some]; exact h4, h5, h6⟩
end
/-! freezing -/
theorem bm_fzs (i : Nat) {z : S} {d : D} (e : ∀ st, (φ st)[i]? = some (some z)) (k : frS z = some d) (h : BM (fun st => (φ st).set i (some (.fz d))) (sq f fr) m N B R) : BM φ (sq (dFz i f) fr) m N B R := fun env st s Q q => by
  obtain ⟨o, fl, q1, q2⟩ := h _ st (s.set i (.fz d)) Q q
  refine ⟨o, fl, ?_, q2⟩
  simp only [sq, dFz, frzE, s.gs (e st), Option.bind_some, k, Option.map_some]
  exact q1
theorem bm_fz (i : Nat) {z : S} {d : D} (e : ∀ st, (φ st)[i]? = some (some z)) (k : frS z = some d) (h : BM (fun st => (φ st).set i (some (.fz d))) f m N B R) : BM φ (dFz i f) m N B R := fun env st s Q q => by
  obtain ⟨o, fl, q1, q2⟩ := h _ st (s.set i (.fz d)) Q q
  refine ⟨o, fl, ?_, q2⟩
  simp only [dFz, frzE, s.gs (e st), Option.bind_some, k, Option.map_some]
  exact q1
theorem bm_fzsL (i : Nat) {xs : List α} (e : ∀ st, (φ st)[i]? = some (some (olE xs)) := by intro st; rfl) (h : BM (fun st => (φ st).set i (some (.fz (en xs)))) (sq f fr) m N B R) : BM φ (sq (dFz i f) fr) m N B R := bm_fzs i e (frS_olE xs) h
theorem bm_fzL (i : Nat) {xs : List α} (e : ∀ st, (φ st)[i]? = some (some (olE xs)) := by intro st; rfl) (h : BM (fun st => (φ st).set i (some (.fz (en xs)))) f m N B R) : BM φ (dFz i f) m N B R := bm_fz i e (frS_olE xs) h
theorem bm_fzsF (i : Nat) {a : α} (e : ∀ st, (φ st)[i]? = some (some (.fz (en a))) := by intro st; rfl) (h : BM (fun st => (φ st).set i (some (.fz (en a)))) (sq f fr) m N B R) : BM φ (sq (dFz i f) fr) m N B R := bm_fzs i e rfl h
theorem bm_fzF (i : Nat) {a : α} (e : ∀ st, (φ st)[i]? = some (some (.fz (en a))) := by intro st; rfl) (h : BM (fun st => (φ st).set i (some (.fz (en a)))) f m N B R) : BM φ (dFz i f) m N B R := bm_fz i e rfl h
theorem bm_le {φ' : Fs2} (h : ∀ st, Le (φ st) (φ' st)) (k : BM φ' f m N B R) : BM φ f m N B R := fun env st s => k env st ((h st).sat s)
/-! loops -/
variable {s0 : σ'} {body : α → σ' → Dr (Flow σ' σ' ρ)} {ψs : σ' → Fs2} {ψ1 : α → σ' → Fs2} {ft : D → VL.Env → Option VL.Env} {fb : VL.Env → Option Out}
theorem forD_loopDr {R : ρ → S → VL.Env → Prop} (ht : ∀ x s st, TG (ψs s st) ft x (ψ1 x s st)) (hb : ∀ x s, BM (ψ1 x s) fb (body x s) (NM ψs) (NM ψs) R) : ∀ (xs : List α) (s : σ') (env : VL.Env) (st : DSt), Sat (ψs s st) env → ∀ Q : Flow σ' σ ρ → Prop, loopDr body xs s Q → ∃ o fl, forD ft fb (xs.map en) env = some o ∧ FlOk (NM ψs) B R fl o ∧ Q fl
  | [], s, env, st, h, Q, q => ⟨.nx env, .nx s, rfl, ⟨st, h⟩, q⟩
  | x :: xs, s, env, st, h, Q, q => by
    obtain ⟨env1, k1, k2⟩ := ht x s st env h
    obtain ⟨u, fl1, k3, k4, k5⟩ := hb x s env1 st k2 _ q
    have hu : forD ft fb ((x :: xs).map en) env = (fb env1).bind (aftD ft fb (xs.map en)) := by
      show (ft (en x) env).bind _ = _
      rw [k1]; rfl
    rw [hu, k3]
    show ∃ o fl, aftD ft fb (xs.map en) u = some o ∧ _
    cases fl1 with
    | nx t => cases u with
      | nx e' =>
        obtain ⟨s', k4⟩ := k4
        exact forD_loopDr ht hb xs t e' s' k4 Q k5
      | _ => exact k4.elim
    | ct t => cases u with
      | ct e' =>
        obtain ⟨s', k4⟩ := k4
        exact forD_loopDr ht hb xs t e' s' k4 Q k5
      | _ => exact k4.elim
    | bk t => cases u with
      | bk e' => exact ⟨.nx e', .nx t, rfl, k4, k5⟩
      | _ => exact k4.elim
    | rt t => cases u with
      | rt z e' => exact ⟨.rt z e', .rt t, rfl, k4, k5⟩
      | _ => exact k4.elim
theorem bm_for {xs : List α} {fi : VL.Env → Option (List D)} {R : ρ → S → VL.Env → Prop} (hi : ∀ st, EL (φ st) fi xs) (h0 : ∀ st, Le (φ st) (ψs s0 st)) (ht : ∀ x s st, TG (ψs s st) ft x (ψ1 x s st)) (hb : ∀ x s, BM (ψ1 x s) fb (body x s) (NM ψs) (NM ψs) R) : BM φ (sFor fi ft fb) (loopDr body xs s0 : Dr (Flow σ' σ ρ)) (NM ψs) B R := fun env st s Q q => by
  simp only [sFor, hi st env s, Option.bind_some]
  exact forD_loopDr ht hb xs s0 env st ((h0 st).sat s) Q q
theorem bm_forM {fi : Mo (List D)} {mi : Dr (List α)} {R : ρ → S → VL.Env → Prop} (hi : GM φ (List.map en) fi mi) (h0 : ∀ st, Le (φ st) (ψs s0 st)) (ht : ∀ x s st, TG (ψs s st) ft x (ψ1 x s st)) (hb : ∀ x s, BM (ψ1 x s) fb (body x s) (NM ψs) (NM ψs) R) : BM φ (sForM fi ft fb) (bnd mi fun xs => loopDr body xs s0 : Dr (Flow σ' σ ρ)) (NM ψs) B R := fun env st s Q q => by
  obtain ⟨xs, e1, s1, h1, h2, h3⟩ := hi env st s _ q
  simp only [sForM, h1, Option.bind_some]
  exact forD_loopDr ht hb xs s0 e1 s1 ((h0 s1).sat h2) Q h3
end
/-! ### defs that draw; the law -/
def ansM {ρ : Type} (m : Dr (Flow Unit Empty ρ)) : Dr ρ := fun Q => m fun fl => match fl with
  | .rt r => Q r
  | _ => False
/-- the answer is frozen, the state stands in slot 0 -/
def RM {ρ : Type} [Ty ρ] (p : Addr) (i : Nat) : ρ → S → VL.Env → Prop := fun r s e => s = .fz (en r) ∧ ∃ st, getS e i = some (atS p st)
theorem rm {ρ : Type} [Ty ρ] {p : Addr} {i : Nat} {r : ρ} {φ : Fs} (st : DSt) (h : φ[i]? = some (some (atS p st)) := by rfl) : ∀ env, Sat φ env → RM p i r (.fz (en r)) env := fun env s => ⟨rfl, st, s.gs h⟩
theorem fn_I {ρ : Type} [Ty ρ] {np n : Nat} {fb : VL.Env → Option Out} {ds : List D} {m : Dr (Flow Unit Empty ρ)} {N : Unit → VL.Env → Prop} {B : Empty → VL.Env → Prop} (hl : ds.length + 1 = np) (hn : np ≤ n)
    (h : ∀ p, BM (fun st => some (atS p st) :: (ds.map (fun d => some (S.fz d)) ++ List.replicate (n - np) none)) fb m N B (RM p 0)) : IOk (fnI np n fb) ds (ansM m) := fun p st Q q => by
  obtain ⟨o, fl, h1, h2, h3⟩ := h p (some (atS p st) :: (ds.map (fun d => some (S.fz d)) ++ List.replicate (n - np) none)) st ⟨rfl, fun _ _ e => e⟩ _ q
  cases fl with
  | rt r => cases o with
    | rt z e' =>
      obtain ⟨rfl, st', h4⟩ := h2
      refine ⟨r, st', ?_, h3⟩
      unfold fnI
      rw [if_pos ⟨hl, hn⟩]
      show (fb (some (atS p st) :: (ds.map (fun d => some (S.fz d)) ++ List.replicate (n - np) none))).bind _ = _
      rw [h1]
      show (VL.slotAt e' p).map _ = _
      unfold VL.slotAt
      rw [h4]
      simp only [atS, Option.bind_some, atOf_at, if_true, Option.map_some]
    | _ => exact h2.elim
  | _ => exact h3.elim
theorem law_of {n : Nat} {fb : VL.Env → Option Out} {m : Dr (Flow Unit Empty Bool)} {N : Unit → VL.Env → Prop} {B : Empty → VL.Env → Prop}
    (h : ∀ p, BM (fun st => none :: some (atS p st) :: List.replicate (n - 2) none) fb m N B (RM p 1)) (q : ansM m (fun b => b = true)) : LawTrue n fb := fun p cs hc => by
  obtain ⟨o, fl, h1, h2, h3⟩ := h p (lawE n p cs) ⟨0, cs, hc⟩ ⟨rfl, fun _ _ e => e⟩ _ q
  cases fl with
  | rt r => cases o with
    | rt z e' =>
      obtain ⟨rfl, _⟩ := h2
      cases h3
      exact ⟨e', h1⟩
    | _ => exact h2.elim
  | _ => exact h3.elim
end TL

set_option Elab.async false
set_option linter.all false
set_option maxRecDepth 100000
/-! TL5: options narrowed, data read as typed, answers as they are frozen. -/
namespace TL
open PySem PySem.Spec PyProof.Rows L2 VL
open Ty (en)
section
variable {α β γ δ ε : Type} [Ty α] [Ty β] [Ty γ] [Ty δ] [Ty ε] {φ : Fs} {f : VL.Env → Option D}
theorem eo_get {o : Option α} (h : EV φ f o) : EO φ f o := fun env s v e => by rw [h env s, e]; rfl
/-- all there -/
def castL {α : Type} : List (Option α) → Option (List α)
  | [] => some []
  | none :: _ => none
  | some a :: xs => (castL xs).map (a :: ·)
theorem castL_en : ∀ {xs : List (Option α)} {ys : List α}, castL xs = some ys → (en xs : D) = en ys := by
  intro xs ys h
  show D.lst _ = D.lst _
  congr 1
  induction xs generalizing ys with
  | nil => cases h; rfl
  | cons x xs ih =>
    cases x with
    | none => cases h
    | some a =>
      obtain ⟨zs, h1, rfl⟩ := Option.map_eq_some_iff.mp h
      rw [List.map_cons, List.map_cons, ih h1]; rfl
theorem eo_castL {xs : List (Option α)} (h : EV φ f xs) : EO φ f (castL xs) := fun env s v e => by rw [h env s, castL_en e]
theorem elo_castL {fl : VL.Env → Option (List D)} {xs : List (Option α)} (h : EL φ fl xs) : ELo φ fl (castL xs) := fun env s v e => by
  rw [h env s]
  have := castL_en e
  exact congrArg some (D.lst.inj this)
theorem scS_of {s : S} {d : D} (h : frS s = some d) (k : scal d = some d) : scS s = some d := by
  cases s with
  | fz e => cases h; exact k
  | ol xs => obtain ⟨_, rfl⟩ := frS_some h; cases k
  | od t xs => obtain ⟨_, rfl⟩ := frS_some h; cases k
  | ot xs => obtain ⟨_, rfl⟩ := frS_some h; cases k
  | ob _ _ => obtain ⟨q, _⟩ := frS_some h; cases q
  | «at» _ _ => obtain ⟨q, _⟩ := frS_some h; cases q
theorem eo_callW2 {fs : VL.Env → Option (List D)} {ds : List D} {F : List D → Option S} {o : Option α} (hs : EA φ fs ds) (k : ∀ r, o = some r → ∃ s, F ds = some s ∧ frS s = some (en r)) (hc : ∀ r : α, scal (en r) = some (en r)) : EO φ (cW fs F) o := fun env s v e => by
  obtain ⟨z, k1, k2⟩ := k v e
  simp only [cW, hs env s, Option.bind_some, k1]
  exact scS_of k2 (hc v)
theorem castL_map (xs : List α) : castL (xs.map some) = some xs := by
  induction xs with
  | nil => rfl
  | cons x xs ih => show (castL (xs.map some)).map _ = _; rw [ih]; rfl
/-! constants -/
theorem op_mulc1 (a b : Int) (h : a.natAbs < 2 ^ 64) : O2 dMul a b (a * b) := op_mul a b _ (if_pos (.inl h))
theorem op_mulc2 (a b : Int) (h : b.natAbs < 2 ^ 64) : O2 dMul a b (a * b) := op_mul a b _ (if_pos (.inr h))
theorem op_divc (a b : Int) (h : 0 < b) (h' : b.natAbs.log2 < 9000) : O2 dDiv a b (a / b) := op_div a b _ (if_pos ⟨h, h'⟩)
theorem op_modc (a b : Int) (h : 0 < b) : O2 dMod a b (a % b) := op_mod a b _ (if_pos h)
/-! data read -/
instance : De Int := ⟨fun d => match d with | .int i => some i | _ => none, by
  intro d a h
  cases d <;> first | (cases h; rfl) | cases h⟩
instance : De Bool := ⟨fun d => match d with | .bl i => some i | _ => none, by
  intro d a h
  cases d <;> first | (cases h; rfl) | cases h⟩
instance : De Str := ⟨fun d => match d with | .str i => some i | _ => none, by
  intro d a h
  cases d <;> first | (cases h; rfl) | cases h⟩
instance : De D := ⟨fun d => some d, fun h => by cases h; rfl⟩
def deL [De α] : List D → Option (List α)
  | [] => some []
  | d :: ds => (De.de d).bind fun a => (deL ds).map (a :: ·)
theorem deL_ok [De α] : ∀ {ds : List D} {xs : List α}, deL ds = some xs → ds = xs.map en
  | [], xs, h => by cases h; rfl
  | d :: ds, xs, h => by
    obtain ⟨a, h1, h2⟩ := Option.bind_eq_some_iff.mp (show (De.de d : Option α).bind _ = _ from h)
    obtain ⟨ys, h3, rfl⟩ := Option.map_eq_some_iff.mp h2
    rw [List.map_cons, ← deL_ok h3, ← De.ok h1]
def lstD : D → Option (List D)
  | .lst ds => some ds
  | _ => none
def tupD : D → Option (List D)
  | .tup ds => some ds
  | _ => none
theorem lstD_ok {d : D} {ds : List D} (h : lstD d = some ds) : d = .lst ds := by cases d <;> first | (cases h; rfl) | cases h
theorem tupD_ok {d : D} {ds : List D} (h : tupD d = some ds) : d = .tup ds := by cases d <;> first | (cases h; rfl) | cases h
instance [De α] : De (List α) := ⟨fun d => (lstD d).bind deL, fun {d a} h => by
  obtain ⟨ds, h1, h2⟩ := Option.bind_eq_some_iff.mp h
  rw [lstD_ok h1, deL_ok h2]; rfl⟩
instance [De α] : De (Tup α) := ⟨fun d => (tupD d).bind fun ds => (deL ds).map Tup.mk, fun {d a} h => by
  obtain ⟨ds, h1, h2⟩ := Option.bind_eq_some_iff.mp h
  obtain ⟨xs, h3, rfl⟩ := Option.map_eq_some_iff.mp h2
  rw [tupD_ok h1, deL_ok h3]; rfl⟩
def de1 [De α] : List D → Option (T1 α)
  | [a] => (De.de a).bind fun a => some ⟨a⟩
  | _ => none
def de2 [De α] [De β] : List D → Option (α × β)
  | [a, b] => (De.de a).bind fun a => (De.de b).bind fun b => some (a, b)
  | _ => none
def de3 [De α] [De β] [De γ] : List D → Option (T3 α β γ)
  | [a, b, c] => (De.de a).bind fun a => (De.de b).bind fun b => (De.de c).bind fun c => some ⟨a, b, c⟩
  | _ => none
def de4 [De α] [De β] [De γ] [De δ] : List D → Option (T4 α β γ δ)
  | [a, b, c, d] => (De.de a).bind fun a => (De.de b).bind fun b => (De.de c).bind fun c => (De.de d).bind fun d => some ⟨a, b, c, d⟩
  | _ => none
def de5 [De α] [De β] [De γ] [De δ] [De ε] : List D → Option (T5 α β γ δ ε)
  | [a, b, c, d, e] => (De.de a).bind fun a => (De.de b).bind fun b => (De.de c).bind fun c => (De.de d).bind fun d => (De.de e).bind fun e => some ⟨a, b, c, d, e⟩
  | _ => none
instance [De α] : De (T1 α) := ⟨fun d => (tupD d).bind de1, fun {d p} h => by
  obtain ⟨ds, h1, h2⟩ := Option.bind_eq_some_iff.mp h
  rw [tupD_ok h1]
  unfold de1 at h2
  split at h2
  · obtain ⟨a, k1, h2⟩ := Option.bind_eq_some_iff.mp h2
    cases h2
    rw [De.ok k1]; rfl
  · cases h2⟩
instance [De α] [De β] : De (α × β) := ⟨fun d => (tupD d).bind de2, fun {d p} h => by
  obtain ⟨ds, h1, h2⟩ := Option.bind_eq_some_iff.mp h
  rw [tupD_ok h1]
  unfold de2 at h2
  split at h2
  · obtain ⟨a, k1, h2⟩ := Option.bind_eq_some_iff.mp h2
    obtain ⟨b, k2, h2⟩ := Option.bind_eq_some_iff.mp h2
    cases h2
    rw [De.ok k1, De.ok k2]; rfl
  · cases h2⟩
instance [De α] [De β] [De γ] : De (T3 α β γ) := ⟨fun d => (tupD d).bind de3, fun {d p} h => by
  obtain ⟨ds, h1, h2⟩ := Option.bind_eq_some_iff.mp h
  rw [tupD_ok h1]
  unfold de3 at h2
  split at h2
  · obtain ⟨a, k1, h2⟩ := Option.bind_eq_some_iff.mp h2
    obtain ⟨b, k2, h2⟩ := Option.bind_eq_some_iff.mp h2
    obtain ⟨c, k3, h2⟩ := Option.bind_eq_some_iff.mp h2
    cases h2
    rw [De.ok k1, De.ok k2, De.ok k3]; rfl
  · cases h2⟩
instance [De α] [De β] [De γ] [De δ] : De (T4 α β γ δ) := ⟨fun d => (tupD d).bind de4, fun {d p} h => by
  obtain ⟨ds, h1, h2⟩ := Option.bind_eq_some_iff.mp h
  rw [tupD_ok h1]
  unfold de4 at h2
  split at h2
  · obtain ⟨a, k1, h2⟩ := Option.bind_eq_some_iff.mp h2
    obtain ⟨b, k2, h2⟩ := Option.bind_eq_some_iff.mp h2
    obtain ⟨c, k3, h2⟩ := Option.bind_eq_some_iff.mp h2
    obtain ⟨d, k4, h2⟩ := Option.bind_eq_some_iff.mp h2
    cases h2
    rw [De.ok k1, De.ok k2, De.ok k3, De.ok k4]; rfl
  · cases h2⟩
instance [De α] [De β] [De γ] [De δ] [De ε] : De (T5 α β γ δ ε) := ⟨fun d => (tupD d).bind de5, fun {d p} h => by
  obtain ⟨ds, h1, h2⟩ := Option.bind_eq_some_iff.mp h
  rw [tupD_ok h1]
  unfold de5 at h2
  split at h2
  · obtain ⟨a, k1, h2⟩ := Option.bind_eq_some_iff.mp h2
    obtain ⟨b, k2, h2⟩ := Option.bind_eq_some_iff.mp h2
    obtain ⟨c, k3, h2⟩ := Option.bind_eq_some_iff.mp h2
    obtain ⟨d, k4, h2⟩ := Option.bind_eq_some_iff.mp h2
    obtain ⟨e, k5, h2⟩ := Option.bind_eq_some_iff.mp h2
    cases h2
    rw [De.ok k1, De.ok k2, De.ok k3, De.ok k4, De.ok k5]; rfl
  · cases h2⟩
instance [De α] : De (Option α) := ⟨fun d => match d with | .non => some none | d => (De.de d).map some, fun {d p} h => by
  split at h
  · cases h; rfl
  · obtain ⟨a, k1, rfl⟩ := Option.map_eq_some_iff.mp h
    exact De.ok (α := α) k1⟩
/-- what is typed reads as itself -/
class DeE (α : Type) [Ty α] extends De α where
  ee : ∀ a : α, de (en a) = some a
instance : DeE Int := ⟨fun a => rfl⟩
instance : DeE Bool := ⟨fun a => rfl⟩
instance : DeE Str := ⟨fun a => rfl⟩
instance : DeE D := ⟨fun a => rfl⟩
theorem deL_en [DeE α] : ∀ xs : List α, deL (xs.map en) = some xs
  | [] => rfl
  | x :: xs => by
    show (De.de (en x) : Option α).bind _ = _
    rw [DeE.ee, Option.bind_some, deL_en xs]; rfl
instance [DeE α] : DeE (List α) := ⟨fun a => deL_en a⟩
instance [DeE α] : DeE (Tup α) := ⟨fun a => by show (deL (a.l.map en)).map Tup.mk = _; rw [deL_en]; rfl⟩
instance [DeE α] : DeE (T1 α) := ⟨fun p => by show (De.de (en p.a) : Option α).bind _ = _; rw [DeE.ee]; rfl⟩
instance [DeE α] [DeE β] : DeE (α × β) := ⟨fun p => by show (De.de (en p.1) : Option α).bind _ = _; rw [DeE.ee, Option.bind_some, DeE.ee]; rfl⟩
instance [DeE α] [DeE β] [DeE γ] : DeE (T3 α β γ) := ⟨fun p => by show (De.de (en p.a) : Option α).bind _ = _; rw [DeE.ee, Option.bind_some, DeE.ee, Option.bind_some, DeE.ee]; rfl⟩
instance [DeE α] [DeE β] [DeE γ] [DeE δ] : DeE (T4 α β γ δ) := ⟨fun p => by show (De.de (en p.a) : Option α).bind _ = _; rw [DeE.ee, Option.bind_some, DeE.ee, Option.bind_some, DeE.ee, Option.bind_some, DeE.ee]; rfl⟩
instance [DeE α] [DeE β] [DeE γ] [DeE δ] [DeE ε] : DeE (T5 α β γ δ ε) := ⟨fun p => by show (De.de (en p.a) : Option α).bind _ = _; rw [DeE.ee, Option.bind_some, DeE.ee, Option.bind_some, DeE.ee, Option.bind_some, DeE.ee, Option.bind_some, DeE.ee]; rfl⟩
instance [DeE α] [NonN α] : DeE (Option α) := ⟨fun p => by
  cases p with
  | none => rfl
  | some a =>
    have h1 := NonN.nn a
    have h2 := DeE.ee a
    show (match (en a : D) with | .non => some none | d => (De.de d).map some) = _
    revert h1 h2
    generalize (en a : D) = d
    intro h1 h2
    cases d <;> first | exact absurd rfl h1 | (simp only [h2]; rfl)⟩
end
section
variable {τ τ' σ ρ : Type} {φ : Fs} {f : VL.Env → Option Out} {m : Option (Flow τ σ ρ)} {N N' : τ → VL.Env → Prop} {B : σ → VL.Env → Prop} {R : ρ → S → VL.Env → Prop}
theorem bl_mono (h : ∀ t e, N t e → N' t e) (k : BL φ f m N B R) : BL φ f m N' B R := fun env s fl e => by
  obtain ⟨o, h1, h2⟩ := k env s fl e
  refine ⟨o, h1, ?_⟩
  cases fl <;> cases o <;> first | exact h _ _ h2 | exact h2
/-- what a def answers, frozen -/
def RF {ρ : Type} [Ty ρ] : ρ → S → VL.Env → Prop := fun r s _ => frS s = some (en r)
theorem rf {ρ : Type} [Ty ρ] {r : ρ} {s : S} {φ : Fs} (h : frS s = some (en r) := by rfl) : ∀ env, Sat φ env → RF r s env := fun _ _ => h
theorem rfl_ {α : Type} [Ty α] {xs : List α} {φ : Fs} : ∀ env, Sat φ env → RF xs (olE xs) env := fun _ _ => frS_olE xs
theorem rflo {α : Type} [Ty α] {xs : List α} {φ : Fs} : ∀ env, Sat φ env → RF (some xs) (olE xs) env := fun _ _ => frS_olE xs
theorem fn_f {ρ : Type} [Ty ρ] {np n : Nat} {fb : VL.Env → Option Out} {ds : List D} {m : Option (Flow Unit Empty ρ)} {N : Unit → VL.Env → Prop} {B : Empty → VL.Env → Prop} (hl : ds.length = np) (h : BL (startE n ds) fb m N B RF) : ∀ r, ansT m = some r → ∃ s, fnS np n fb ds = some s ∧ frS s = some (en r) := fun r e => by
  obtain ⟨fl, e1, e2⟩ := Option.bind_eq_some_iff.mp (show m.bind _ = _ from e)
  obtain ⟨u, k1, k2⟩ := h (startE n ds) ⟨rfl, fun _ _ e => e⟩ fl e1
  unfold fnS
  rw [if_pos hl, k1]
  cases fl with
  | rt r' => cases u with
    | rt z e' => cases e2; exact ⟨z, rfl, k2⟩
    | _ => exact k2.elim
  | _ => cases e2
theorem fn_fN {ρ : Type} [Ty ρ] {np n : Nat} {fb : VL.Env → Option Out} {ds : List D} {m : Option (Flow Unit Empty ρ)} {d : ρ} {N : Unit → VL.Env → Prop} {B : Empty → VL.Env → Prop} (hl : ds.length = np) (hd : (en d : D) = .non) (h : BL (startE n ds) fb m N B RF) : ∀ r, ansN d m = some r → ∃ s, fnS np n fb ds = some s ∧ frS s = some (en r) := fun r e => by
  obtain ⟨fl, e1, e2⟩ := Option.bind_eq_some_iff.mp (show m.bind _ = _ from e)
  obtain ⟨u, k1, k2⟩ := h (startE n ds) ⟨rfl, fun _ _ e => e⟩ fl e1
  unfold fnS
  rw [if_pos hl, k1]
  cases fl with
  | rt r' => cases u with
    | rt z e' => cases e2; exact ⟨z, rfl, k2⟩
    | _ => exact k2.elim
  | nx t => cases u with
    | nx e' => cases e2; exact ⟨_, rfl, by rw [hd]; rfl⟩
    | _ => exact k2.elim
  | _ => cases e2
end
section
variable {α : Type} [Ty α] {τ : Type} {φ : Fs2}
theorem sm_ext (i : Nat) {fe : Mo D} {m : Dr (List α)} {xs : List α} (e : ∀ st, (φ st)[i]? = some (some (olE xs)) := by intro st; rfl) (h : GM φ en fe m) : SM φ (sExtM i fe) (bnd m fun v => lift (addL xs v)) (fun v st => (φ st).set i (some (olE v))) := fun env st s Q q => by
  obtain ⟨a, e1, s1, h1, h2, v, h3, h4⟩ := h env st s _ q
  unfold addL at h3
  split at h3
  · rename_i hl
    cases h3
    refine ⟨_, e1.set i (some (olE (xs ++ a))), s1, ?_, h2.set i _, h4⟩
    simp only [sExtM, s.gs (e st), olOf_olE, Option.bind_some, h1, h2.gs (e s1)]
    show (if (xs.map en).length + (a.map en).length ≤ sizeLine then _ else _ : Option Out) = _
    rw [List.length_map, List.length_map, if_pos hl, ← List.map_append]; rfl
  · cases h3
theorem bi_sortM [DecidableEq α] [TyOrd α] (xs : List α) (h : TyEq.n α ≤ 40 := by decide) : ∀ c, sortO xs = some c → (dSorted [en xs]).map D.lst = some (en c) := fun c e => by rw [bi_sort xs h c e]; rfl
end
section
variable {α β : Type} [Ty α] [Ty β] {φ : Fs} {f : VL.Env → Option D} {fs : VL.Env → Option (List D)}
theorem ei_rv {xs : List α} (h : EV φ f xs) : EL φ (iRv f) xs.reverse := fun env s => by
  simp only [iRv, h env s, Option.bind_some]
  show some (xs.map en).reverse = _
  rw [List.map_reverse]
theorem ei_zp {xs : List α} {ys : List β} (h : EA φ fs [en xs, en ys]) : EL φ (iZp fs) (List.zip xs ys) := fun env s => by
  simp only [iZp, h env s, Option.bind_some]
  show some (zipD (xs.map en) (ys.map en)) = _
  congr 1
  unfold zipD List.zip
  rw [List.zipWith_map, List.map_zipWith]
  rfl
/-! slices of tuples -/
theorem ev_cutU {xs : Tup α} {lo hi : Option Int} {l r : VL.Env → Option (Option Int)} (h : EV φ f xs) (hl : GJ φ (fun o : Option Int => o) l lo) (hr : GJ φ (fun o : Option Int => o) r hi) : EV φ (dCutU f l r) (Tup.mk (VL.cutD xs.l lo hi)) := fun env s => by
  simp only [dCutU, h env s, Option.bind_some, hl env s, hr env s]
  show some (D.tup (VL.cutD (xs.l.map en) lo hi)) = _
  rw [cutD_map]; rfl
theorem ev_cutD {ds : List D} {v : α} {d : β} {lo hi : Option Int} {l r : VL.Env → Option (Option Int)} (h : EV φ f d) (hl : GJ φ (fun o : Option Int => o) l lo) (hr : GJ φ (fun o : Option Int => o) r hi) (e : en d = .tup ds) (k : .tup (VL.cutD ds lo hi) = en v) : EV φ (dCutU f l r) v := fun env s => by
  simp only [dCutU, h env s, Option.bind_some, hl env s, hr env s, e]
  show some (D.tup (VL.cutD ds lo hi)) = _
  rw [k]
end
theorem el_rev {α : Type} [Ty α] {φ : Fs} {f : VL.Env → Option D} {xs : List α} (h : EV φ f xs) : EL φ (dRev f) xs.reverse := fun env s => by
  simp only [dRev, h env s, Option.bind_some]
  show some (xs.map en).reverse = _
  rw [List.map_reverse]
/-! repr -/
def reprT {α : Type} [Ty α] (a : α) : Option Str := if showOk (en a) = true then some (en a).py.shown else none
theorem bi_repr {α : Type} [Ty α] (a : α) : ∀ c, reprT a = some c → dRepr [en a] = some (en c) := fun c e => by
  unfold reprT at e
  split at e
  · rename_i h
    cases e
    exact if_pos h
  · cases e
end TL

set_option Elab.async false
set_option linter.all false
set_option maxRecDepth 100000
/-! TL6: reasoning about the typed mirrors. -/
namespace TL
open PySem PySem.Spec PyProof.Rows L2 VL
open Ty (en)
theorem szl : sizeLine = 16777216 := rfl
section
variable {α β γ σ σ' ρ τ τ' : Type}
@[simp] theorem bnd_app (m : Dr α) (k : α → Dr β) (Q : β → Prop) : bnd m k Q = m fun a => k a Q := propext ⟨id, id⟩
@[simp] theorem ret_app (a : α) (Q : α → Prop) : ret a Q = Q a := propext ⟨id, id⟩
theorem takeT_i {m : Int} {Q : Int → Prop} (h : 0 < m) (h' : m.natAbs < 2 ^ 64) (k : ∀ x, 0 ≤ x → x < m → Q x) : takeT m Q := ⟨h, h', k⟩
theorem lift_i {o : Option α} {a : α} {Q : α → Prop} (e : o = some a) (q : Q a) : lift o Q := ⟨a, e, q⟩
def afF (k : τ → Dr (Flow τ' σ ρ)) (Q : Flow τ' σ ρ → Prop) : Flow τ σ ρ → Prop
  | .nx t => k t Q
  | .bk s => Q (.bk s)
  | .ct s => Q (.ct s)
  | .rt r => Q (.rt r)
@[simp] theorem bndF_app (m : Dr (Flow τ σ ρ)) (k : τ → Dr (Flow τ' σ ρ)) (Q : Flow τ' σ ρ → Prop) : bndF m k Q = m (afF k Q) := by
  unfold bndF
  congr 1
  funext fl
  cases fl <;> rfl
/-- a walk that draws -/
theorem loopDr_i {body : α → σ → Dr (Flow σ σ ρ)} (hm : ∀ x s, Mono (body x s)) {Q : Flow σ σ' ρ → Prop} (I : List α → σ → Prop) : ∀ {xs done : List α} {s : σ}, I done s →
    (∀ pre x post s, done ++ xs = pre ++ x :: post → I pre s → body x s fun fl => match fl with
      | .nx s' => I (pre ++ [x]) s'
      | .ct s' => I (pre ++ [x]) s'
      | .bk s' => Q (.nx s')
      | .rt r => Q (.rt r)) → (∀ s, I (done ++ xs) s → Q (.nx s)) → loopDr body xs s Q
  | [], done, s, h0, _, he => he s (by rwa [List.append_nil])
  | x :: xs, done, s, h0, hs, he => by
    have h1 := hs done x xs s rfl h0
    show body x s _
    refine hm x s (fun fl h => ?_) h1
    have go : ∀ s', I (done ++ [x]) s' → loopDr body xs s' Q := fun s' h' => loopDr_i hm I h' (fun pre y post s e i => hs pre y post s (by rw [← e, List.append_assoc]; rfl) i) (fun s i => he s (by rw [List.append_assoc] at i; exact i))
    cases fl with
    | nx s' => exact go s' h
    | ct s' => exact go s' h
    | bk s' => exact h
    | rt r => exact h
/-- the same, no counting -/
theorem loopDr_u {body : α → σ → Dr (Flow σ σ ρ)} {Q : Flow σ σ' ρ → Prop} (I : σ → Prop) : ∀ {xs : List α} {s : σ}, I s →
    (∀ x ∈ xs, ∀ s, I s → ∀ R : Flow σ σ ρ → Prop, (∀ s', I s' → R (.nx s')) → (∀ s', I s' → R (.ct s')) → (∀ s', Q (.nx s') → R (.bk s')) → (∀ r, Q (.rt r) → R (.rt r)) → body x s R) → (∀ s, I s → Q (.nx s)) → loopDr body xs s Q
  | [], s, h0, _, he => he s h0
  | x :: xs, s, h0, hs, he => by
    have go : ∀ s', I s' → loopDr body xs s' Q := fun s' h' => loopDr_u I h' (fun y m => hs y (List.mem_cons_of_mem _ m)) he
    show body x s _
    exact hs x (List.mem_cons_self ..) s h0 _ (fun s' h => go s' h) (fun s' h => go s' h) (fun s' h => h) (fun r h => h)
theorem loopDr_k {body : α → σ → Dr (Flow σ σ ρ)} {Q : Flow σ σ' ρ → Prop} (I : List α → σ → Prop) : ∀ {xs done : List α} {s : σ}, I done s →
    (∀ pre x post s, done ++ xs = pre ++ x :: post → I pre s → ∀ R : Flow σ σ ρ → Prop, (∀ s', I (pre ++ [x]) s' → R (.nx s')) → (∀ s', I (pre ++ [x]) s' → R (.ct s')) → (∀ s', Q (.nx s') → R (.bk s')) → (∀ r, Q (.rt r) → R (.rt r)) → body x s R) → (∀ s, I (done ++ xs) s → Q (.nx s)) → loopDr body xs s Q
  | [], done, s, h0, _, he => he s (by rwa [List.append_nil])
  | x :: xs, done, s, h0, hs, he => by
    have go : ∀ s', I (done ++ [x]) s' → loopDr body xs s' Q := fun s' h' => loopDr_k I h' (fun pre y post s e i => hs pre y post s (by rw [← e, List.append_assoc]; rfl) i) (fun s i => he s (by rw [List.append_assoc] at i; exact i))
    show body x s _
    exact hs done x xs s rfl h0 _ (fun s' h => go s' h) (fun s' h => go s' h) (fun s' h => h) (fun r h => h)
def anF (Q : ρ → Prop) : Flow Unit Empty ρ → Prop
  | .rt r => Q r
  | _ => False
@[simp] theorem anF_rt (Q : ρ → Prop) (r : ρ) : anF Q (.rt r) = Q r := propext ⟨id, id⟩
theorem ansM_app (m : Dr (Flow Unit Empty ρ)) (Q : ρ → Prop) : ansM m Q = m (anF Q) := propext ⟨id, id⟩
@[simp] theorem afF_nx (k : τ → Dr (Flow τ' σ ρ)) (Q : Flow τ' σ ρ → Prop) (t : τ) : afF k Q (.nx t) = k t Q := propext ⟨id, id⟩
@[simp] theorem afF_rt (k : τ → Dr (Flow τ' σ ρ)) (Q : Flow τ' σ ρ → Prop) (t : ρ) : afF k Q (.rt t) = Q (.rt t) := propext ⟨id, id⟩
/-- a comprehension that draws, no test -/
theorem compDr_i {g : α → Dr β} {Q : List β → Prop} (P : β → Prop) : ∀ {xs : List α}, (∀ x ∈ xs, ∀ R : β → Prop, (∀ y, P y → R y) → g x R) → (∀ ys, ys.length = xs.length → (∀ y ∈ ys, P y) → Q ys) → compDr (fun _ => ret true) g xs Q
  | [], _, h => h [] rfl (fun y m => by cases m)
  | x :: xs, hg, h => by
    show g x _
    refine hg x (List.mem_cons_self ..) _ fun y hy => ?_
    show compDr _ g xs _
    refine compDr_i P (fun z m => hg z (List.mem_cons_of_mem _ m)) fun ys hl hp => ?_
    refine h (y :: ys) (by rw [List.length_cons, List.length_cons, hl]) fun z m => ?_
    rcases List.mem_cons.mp m with rfl | m
    · exact hy
    · exact hp z m
/-! ### pure walks -/
theorem loopT_ok {body : α → σ → Option (Flow σ σ ρ)} {P : Flow σ σ' ρ → Prop} (I : List α → σ → Prop) : ∀ {xs done : List α} {s : σ}, I done s →
    (∀ pre x post s, done ++ xs = pre ++ x :: post → I pre s → ∃ fl, body x s = some fl ∧ match fl with
      | .nx s' => I (pre ++ [x]) s'
      | .ct s' => I (pre ++ [x]) s'
      | .bk s' => P (.nx s')
      | .rt r => P (.rt r)) → (∀ s, I (done ++ xs) s → P (.nx s)) → ∃ fl, loopT body xs s = some fl ∧ P fl
  | [], done, s, h0, _, he => ⟨.nx s, rfl, he s (by rwa [List.append_nil])⟩
  | x :: xs, done, s, h0, hs, he => by
    obtain ⟨fl, h1, h2⟩ := hs done x xs s rfl h0
    have go : ∀ s', I (done ++ [x]) s' → ∃ fl, (loopT body xs s' : Option (Flow σ σ' ρ)) = some fl ∧ P fl := fun s' h' => loopT_ok I h' (fun pre y post s e i => hs pre y post s (by rw [← e, List.append_assoc]; rfl) i) (fun s i => he s (by rw [List.append_assoc] at i; exact i))
    cases fl with
    | nx s' => rw [loopT_nx h1]; exact go s' h2
    | ct s' => rw [loopT_ct h1]; exact go s' h2
    | bk s' => rw [loopT_bk h1]; exact ⟨_, rfl, h2⟩
    | rt r => rw [loopT_rt h1]; exact ⟨_, rfl, h2⟩
theorem loopT_fold {body : α → σ → Option (Flow σ σ ρ)} {f : σ → α → σ} : ∀ {xs : List α} {s : σ}, (∀ x ∈ xs, ∀ s, body x s = some (.nx (f s x))) → (loopT body xs s : Option (Flow σ σ' ρ)) = some (.nx (xs.foldl f s))
  | [], s, _ => rfl
  | x :: xs, s, h => by
    rw [loopT_nx (h x (List.mem_cons_self ..) s)]
    exact loopT_fold fun y m => h y (List.mem_cons_of_mem _ m)
theorem loopT_foldJ {body : α → σ → Option (Flow σ σ ρ)} {f : σ → α → σ} (J : σ → Prop) : ∀ {xs : List α} {s : σ}, J s → (∀ x ∈ xs, ∀ s, J s → body x s = some (.nx (f s x)) ∧ J (f s x)) → (loopT body xs s : Option (Flow σ σ' ρ)) = some (.nx (xs.foldl f s)) ∧ J (xs.foldl f s)
  | [], s, h0, _ => ⟨rfl, h0⟩
  | x :: xs, s, h0, h => by
    obtain ⟨h1, h2⟩ := h x (List.mem_cons_self ..) s h0
    rw [loopT_nx h1]
    exact loopT_foldJ J h2 fun y m => h y (List.mem_cons_of_mem _ m)
theorem loopT_map {γ : Type} {body : β → σ → Option (Flow σ σ ρ)} {g : α → β} : ∀ {xs : List α} {s : σ}, (loopT body (xs.map g) s : Option (Flow σ σ' ρ)) = loopT (fun x => body (g x)) xs s
  | [], s => rfl
  | x :: xs, s => by
    show (body (g x) s).bind _ = (body (g x) s).bind _
    congr 1
    funext fl
    cases fl with
    | nx t => exact loopT_map (γ := γ)
    | ct t => exact loopT_map (γ := γ)
    | bk t => rfl
    | rt t => rfl
/-- what a walk that only looks for the first comes to -/
def foundF {σ' ρ : Type} : Option ρ → Flow Unit σ' ρ
  | none => .nx ()
  | some z => .rt z
theorem found_ans {ρ : Type} {o : Option ρ} {k : Unit → Option (Flow Unit Empty ρ)} {d : ρ} (h : ansT (k ()) = some d) : ansT (sqT (some (foundF o)) k) = some (o.getD d) := by
  cases o with
  | none => exact h
  | some z => rfl
/-- nothing carried: the first that answers -/
theorem loopT_find {body : α → Unit → Option (Flow Unit Unit ρ)} {r : α → Option ρ} : ∀ {xs : List α}, (∀ x ∈ xs, body x () = some (foundF (r x))) → (loopT body xs () : Option (Flow Unit σ' ρ)) = some (foundF (xs.findSome? r))
  | [], _ => rfl
  | x :: xs, h => by
    have h1 := h x (List.mem_cons_self ..)
    rw [List.findSome?_cons]
    cases e : r x with
    | none =>
      rw [e] at h1
      rw [loopT_nx h1]
      exact loopT_find fun y m => h y (List.mem_cons_of_mem _ m)
    | some z =>
      rw [e] at h1
      rw [loopT_rt h1]; rfl
/-- a while loop, by a number that falls -/
theorem whT_ok {c : σ → Option Bool} {body : σ → Option (Flow σ σ ρ)} {P : Flow σ σ' ρ → Prop} (I : σ → Prop) (μ : σ → Nat) : ∀ {n : Nat} {s : σ}, I s → μ s < n →
    (∀ s, I s → c s = some false → P (.nx s)) → (∀ s, I s → ∃ b, c s = some b) →
    (∀ s, I s → c s = some true → ∃ fl, body s = some fl ∧ match fl with
      | .nx s' => I s' ∧ μ s' < μ s
      | .ct s' => I s' ∧ μ s' < μ s
      | .bk s' => P (.nx s')
      | .rt r => P (.rt r)) → ∃ fl, whT c body n s = some fl ∧ P fl
  | 0, s, _, h, _, _, _ => absurd h (Nat.not_lt_zero _)
  | n + 1, s, h0, hn, hf, hc, hb => by
    obtain ⟨b, e⟩ := hc s h0
    show ∃ fl, (c s).bind _ = some fl ∧ P fl
    rw [e]
    cases b with
    | false => exact ⟨.nx s, rfl, hf s h0 e⟩
    | true =>
      obtain ⟨fl, h1, h2⟩ := hb s h0 e
      show ∃ fl, (body s).bind _ = some fl ∧ P fl
      rw [h1]
      cases fl with
      | nx s' => exact whT_ok I μ h2.1 (by have := h2.2; omega) hf hc hb
      | ct s' => exact whT_ok I μ h2.1 (by have := h2.2; omega) hf hc hb
      | bk s' => exact ⟨_, rfl, h2⟩
      | rt r => exact ⟨_, rfl, h2⟩
/-! ### comprehensions -/
theorem mapT_some {g : α → Option β} {f : α → β} : ∀ {xs : List α}, (∀ x ∈ xs, g x = some (f x)) → mapT g xs = some (xs.map f)
  | [], _ => rfl
  | x :: xs, h => by
    show (g x).bind _ = _
    rw [h x (List.mem_cons_self ..), Option.bind_some, mapT_some fun y m => h y (List.mem_cons_of_mem _ m)]; rfl
theorem compT_some {c : α → Option Bool} {b : α → Bool} {g : α → Option β} {f : α → β} : ∀ {xs : List α}, (∀ x ∈ xs, c x = some (b x)) → (∀ x ∈ xs, b x = true → g x = some (f x)) → compT c g xs = some ((xs.filter b).map f)
  | [], _, _ => rfl
  | x :: xs, hc, hg => by
    show (c x).bind _ = _
    rw [hc x (List.mem_cons_self ..), Option.bind_some]
    have ih := compT_some (c := c) (b := b) (g := g) (f := f) (fun y m => hc y (List.mem_cons_of_mem _ m)) (fun y m => hg y (List.mem_cons_of_mem _ m))
    by_cases h : b x = true
    · rw [if_pos h, hg x (List.mem_cons_self ..) h, Option.bind_some, ih, List.filter_cons_of_pos h]; rfl
    · rw [if_neg h, ih, List.filter_cons_of_neg h]
/-! ### items -/
theorem atI_pos {xs : List α} {i : Int} (h : 0 ≤ i) : atI xs i = xs[i.toNat]? := by
  have := atI_nat xs i.toNat
  rwa [Int.toNat_of_nonneg h] at this
theorem atI_ok {xs : List α} {i : Int} (h : 0 ≤ i) (h' : i < xs.length) : ∃ x, atI xs i = some x ∧ xs[i.toNat]? = some x := by
  have hi : i.toNat < xs.length := by omega
  exact ⟨xs[i.toNat], by rw [atI_pos h, List.getElem?_eq_getElem hi], List.getElem?_eq_getElem hi⟩
theorem pick_i {xs : List α} {i : Int} {Q : α → Prop} (h : 0 ≤ i) (h' : i < xs.length) (q : ∀ x ∈ xs, Q x) : lift (atI xs i) Q := by
  obtain ⟨x, h1, h2⟩ := atI_ok h h'
  exact lift_i h1 (q x (List.mem_of_getElem? h2))
theorem atI_mem {xs : List α} {i : Int} {x : α} (h : atI xs i = some x) : x ∈ xs := by
  unfold atI at h
  cases e : ixN xs.length i with
  | none => rw [e] at h; cases h
  | some j => rw [e] at h; exact List.mem_of_getElem? h
theorem atI_neg1 (xs : List α) : atI xs (-1) = xs.getLast? := by
  unfold atI
  cases xs with
  | nil => rfl
  | cons x xs =>
    have : ixN (x :: xs).length (-1) = some xs.length := by
      unfold ixN
      rw [if_neg (by omega), if_pos (by rw [List.length_cons]; omega)]
      congr 1
      rw [List.length_cons]; omega
    rw [this]
    show (x :: xs)[xs.length]? = _
    rw [List.getLast?_eq_getElem?, List.length_cons]; rfl
theorem putT_ok {xs : List α} {i : Int} {x : α} (h : 0 ≤ i) (h' : i < xs.length) : putT xs i x = some (xs.set i.toNat x) := by
  unfold putT
  have := ixN_nat xs.length i.toNat
  rw [Int.toNat_of_nonneg h, if_pos (by omega)] at this
  rw [this]; rfl
theorem rngT_ok {n : Int} (h : n.natAbs ≤ 16777216) : rngT n = some (rangeT 0 n) := if_pos h
theorem rng2T_ok {a b : Int} (h : a.natAbs ≤ 4000000) (h' : b.natAbs ≤ 4000000) : rng2T a b = some (rangeT a b) := if_pos ⟨by rw [szl]; omega, h', by rw [szl]; omega⟩
theorem rangeT_len (a b : Int) : (rangeT a b).length = (b - a).toNat := by
  unfold rangeT
  rw [List.length_map, List.length_range]
theorem rangeT_nodup (a b : Int) : (rangeT a b).Nodup := by
  unfold rangeT
  refine List.Pairwise.map _ (fun x y h => ?_) List.nodup_range
  omega
theorem rangeT_nat (n : Nat) : rangeT 0 (n : Int) = (List.range n).map fun (k : Nat) => (k : Int) := by
  unfold rangeT
  rw [Int.sub_zero, Int.toNat_natCast]
  refine List.map_congr_left fun k _ => by omega
theorem rangeT_get {a b : Int} {k : Nat} (h : k < (b - a).toNat) : (rangeT a b)[k]? = some (a + (k : Int)) := by
  unfold rangeT
  rw [List.getElem?_map, List.getElem?_range h]; rfl
theorem rangeT_split {a b : Int} {pre post : List Int} {x : Int} (h : rangeT a b = pre ++ x :: post) : x = a + pre.length ∧ pre.length < (b - a).toNat := by
  have h1 : (rangeT a b)[pre.length]? = some x := by rw [h]; simp
  have hl : pre.length < (b - a).toNat := by
    have := congrArg List.length h
    rw [rangeT_len] at this
    simp at this
    omega
  rw [rangeT_get hl] at h1
  exact ⟨(Option.some.inj h1).symm, hl⟩
theorem enumT_get {xs : List α} {k : Nat} {p : Int × α} (h : (enumT xs)[k]? = some p) : p.1 = k ∧ xs[k]? = some p.2 := by
  unfold enumT at h
  rw [List.getElem?_map, List.getElem?_zipIdx] at h
  cases e : xs[k]? with
  | none => rw [e] at h; cases h
  | some x =>
    rw [e] at h
    cases h
    exact ⟨by simp, rfl⟩
theorem enumT_mem {xs : List α} {p : Int × α} : p ∈ enumT xs ↔ 0 ≤ p.1 ∧ xs[p.1.toNat]? = some p.2 := by
  constructor
  · intro h
    obtain ⟨k, hk⟩ := List.getElem?_of_mem h
    obtain ⟨h1, h2⟩ := enumT_get hk
    rw [h1]
    exact ⟨Int.natCast_nonneg _, by rw [Int.toNat_natCast]; exact h2⟩
  · rintro ⟨h1, h2⟩
    unfold enumT
    rw [List.mem_map]
    refine ⟨(p.2, p.1.toNat), ?_, ?_⟩
    · rw [List.mem_zipIdx_iff_getElem?]; exact h2
    · obtain ⟨i, x⟩ := p
      simp only [Prod.mk.injEq, and_true]
      omega
theorem enumT_len (xs : List α) : (enumT xs).length = xs.length := by
  unfold enumT
  rw [List.length_map, List.length_zipIdx]
theorem enumT_fst (xs : List α) : (enumT xs).map (·.1) = rangeT 0 (xs.length : Int) := by
  rw [rangeT_nat]
  unfold enumT
  rw [List.map_map]
  have : (fun (p : α × Nat) => ((p.2 : Int))) = (fun (k : Nat) => (k : Int)) ∘ Prod.snd := rfl
  show List.map (fun (p : α × Nat) => ((p.2 : Int))) xs.zipIdx = _
  rw [this, ← List.map_map, List.zipIdx_map_snd, List.range_eq_range']
theorem mulT_l {a b : Int} (h : a.natAbs < 2 ^ 64) : mulT a b = some (a * b) := if_pos (.inl h)
theorem mulT_r {a b : Int} (h : b.natAbs < 2 ^ 64) : mulT a b = some (a * b) := if_pos (.inr h)
theorem addL_ok {xs ys : List α} (h : xs.length + ys.length ≤ 16777216) : addL xs ys = some (xs ++ ys) := if_pos h
theorem apT_ok {xs : List α} {x : α} (h : xs.length < 16777216) : apT xs x = some (xs ++ [x]) := if_pos h
theorem sortO_ok [Ty α] [DecidableEq α] [TyOrd α] {xs : List α} (h : xs.length ≤ 16777216) : sortO xs = some (sortT xs) := if_pos h
theorem cut_to (xs : List α) {j : Int} (h : 0 ≤ j) : VL.cutD xs none (some j) = xs.take j.toNat := by
  have := VL.cutD_to xs j.toNat
  rwa [Int.toNat_of_nonneg h] at this
theorem cut_from (xs : List α) {j : Int} (h : 0 ≤ j) : VL.cutD xs (some j) none = xs.drop j.toNat := by
  have := VL.cutD_from xs j.toNat
  rwa [Int.toNat_of_nonneg h] at this
theorem minT_int {xs : List Int} {m : Int} (h1 : m ∈ xs) (h2 : ∀ x ∈ xs, m ≤ x) : minT xs = some m := by
  obtain ⟨z, hz⟩ := minT_ne (List.ne_nil_of_mem h1)
  obtain ⟨k1, k2⟩ := minT_some hz
  have a := h2 z k1
  have b := k2 m h1
  rw [leT_int, decide_eq_true_eq] at b
  rw [hz]; congr 1; omega
theorem maxT_int {xs : List Int} {m : Int} (h1 : m ∈ xs) (h2 : ∀ x ∈ xs, x ≤ m) : maxT xs = some m := by
  obtain ⟨z, hz⟩ := maxT_ne (List.ne_nil_of_mem h1)
  obtain ⟨k1, k2⟩ := maxT_some hz
  have a := h2 z k1
  have b := k2 m h1
  rw [leT_int, decide_eq_true_eq] at b
  rw [hz]; congr 1; omega
end
/-! ### data compared -/
section
variable {α : Type} [Ty α] [DecidableEq α] [TyEq α]
theorem eqDT_en (a b : α) (h : TyEq.n α ≤ 40 := by decide) : eqDT (en a) (en b) = some (decide (a = b)) := by
  unfold eqDT
  rw [if_pos (cmpOk_en a b h), TyEq.eq]
theorem neDT_en (a b : α) (h : TyEq.n α ≤ 40 := by decide) : neDT (en a) (en b) = some (!decide (a = b)) := by
  unfold neDT
  rw [if_pos (cmpOk_en a b h), TyEq.eq]
end
theorem eqDT_str (a b : Str) : eqDT (en a) (en b) = some (decide (a = b)) := eqDT_en a b
theorem neDT_str (a b : Str) : neDT (en a) (en b) = some (!decide (a = b)) := neDT_en a b
theorem eqDT_int (a b : Int) : eqDT (en a) (en b) = some (decide (a = b)) := eqDT_en a b
theorem cmpOk_self {d : D} (h : d.nb = true) (k : d.dep ≤ 40) : cmpOk d d = true := cmpOk_of h h k
theorem neDT_self {d : D} (h : d.nb = true) (k : d.dep ≤ 40) : neDT d d = some false := by
  unfold neDT
  rw [if_pos (cmpOk_of h h k), eqD_self h]; rfl
theorem eqDT_self {d : D} (h : d.nb = true) (k : d.dep ≤ 40) : eqDT d d = some true := by
  unfold eqDT
  rw [if_pos (cmpOk_of h h k), eqD_self h]
/-! ### the length of what is shown -/
mutual
/-- how long the text of d may be -/
def wtD : D → Nat
  | .non => 4
  | .bl _ => 5
  | .int _ => 70
  | .str x => (reprText x).length
  | .lst xs => 3 + wtL xs
  | .tup xs => 3 + wtL xs
  | .dic _ _ => 4
def wtL : List D → Nat
  | [] => 0
  | x :: xs => wtD x + 2 + wtL xs
end
mutual
/-- ints below 2^200, no dicts, no bools -/
def smD : D → Bool
  | .int i => decide (i.natAbs < 2 ^ 200)
  | .lst xs => smL xs
  | .tup xs => smL xs
  | .dic _ _ => false
  | _ => true
def smL : List D → Bool
  | [] => true
  | x :: xs => smD x && smL xs
end
mutual
theorem smD_show : ∀ d : D, smD d = true → d.py.showable = true ∧ d.py.shown.length ≤ wtD d
  | .non, _ => ⟨rfl, by decide +kernel⟩
  | .bl b, _ => ⟨rfl, by cases b <;> decide +kernel⟩
  | .int i, h => by
    have h : i.natAbs < 2 ^ 200 := of_decide_eq_true h
    have hl : i.natAbs.log2 < 200 := PySem.Flt.log2_lt_of (by decide) h
    refine ⟨?_, ?_⟩
    · show decide (i.natAbs.log2 < 1920) = true
      exact decide_eq_true (by omega)
    · show (Str.ofString (toString i)).length ≤ 70
      have h10 : i.natAbs < 10 ^ 61 := Nat.lt_trans h (by decide)
      have := PySem.int_text_length_le10 (k := 61) (by decide) h10
      rw [PySem.ofString_length]
      omega
  | .str x, _ => ⟨rfl, Nat.le_refl _⟩
  | .lst xs, h => by
    obtain ⟨h1, h2⟩ := smL_show xs h
    refine ⟨by show (PyData.list _).showable = true; simpa [PyData.showable] using h1, ?_⟩
    show (PyData.shown (.list _)).length ≤ 3 + wtL xs
    simp only [PyData.shown]
    have := PySem.listText_len_le (PyData.shownAll (D.pyL xs))
    omega
  | .tup xs, h => by
    obtain ⟨h1, h2⟩ := smL_show xs h
    refine ⟨by show (PyData.tuple _).showable = true; simpa [PyData.showable] using h1, ?_⟩
    show (PyData.shown (.tuple _)).length ≤ 3 + wtL xs
    simp only [PyData.shown]
    have := PySem.tupleText_len_le (PyData.shownAll (D.pyL xs))
    omega
  | .dic _ _, h => by cases h
theorem smL_show : ∀ xs : List D, smL xs = true → PyData.showableAll (D.pyL xs) = true ∧ ((PyData.shownAll (D.pyL xs)).map (·.length)).sum + 2 * (PyData.shownAll (D.pyL xs)).length ≤ wtL xs
  | [], _ => ⟨rfl, Nat.le_refl _⟩
  | x :: xs, h => by
    have q : smD x = true ∧ smL xs = true := by simpa [smL] using h
    obtain ⟨h1, h2⟩ := smD_show x q.1
    obtain ⟨h3, h4⟩ := smL_show xs q.2
    refine ⟨by simp [D.pyL, PyData.showableAll, h1, h3], ?_⟩
    simp only [D.pyL, PyData.shownAll, List.map_cons, List.sum_cons, List.length_cons, wtL]
    omega
end
theorem showOk_of {d : D} (h1 : d.nb = true) (h2 : smD d = true) (h3 : wtD d ≤ 16777216) (h4 : d.dep ≤ 40) : showOk d = true := by
  unfold showOk
  obtain ⟨k1, k2⟩ := smD_show d h2
  rw [D.nb_plain d h1, k1, decide_eq_true h4, decide_eq_true (show d.py.shown.length ≤ sizeLine by rw [szl]; omega)]; rfl
theorem smL_iff : ∀ {xs : List D}, smL xs = true ↔ ∀ x ∈ xs, smD x = true
  | [] => by simp [smL]
  | x :: xs => by simp [smL, smL_iff (xs := xs)]
theorem wtL_le {w : Nat} : ∀ {xs : List D}, (∀ x ∈ xs, wtD x ≤ w) → wtL xs ≤ (w + 2) * xs.length
  | [], _ => Nat.zero_le _
  | x :: xs, h => by
    have h1 := h x (List.mem_cons_self ..)
    have h2 := wtL_le (xs := xs) fun y m => h y (List.mem_cons_of_mem _ m)
    simp only [wtL, List.length_cons]
    rw [Nat.mul_add]
    omega
theorem wt_ints (ns : List Int) : wtD (en ns : D) = 3 + 72 * ns.length := by
  show 3 + wtL (ns.map D.int) = _
  congr 1
  induction ns with
  | nil => rfl
  | cons n ns ih =>
    simp only [List.map_cons, wtL, wtD, ih, List.length_cons]
    omega
theorem sm_ints {ns : List Int} (h : ∀ n ∈ ns, n.natAbs < 2 ^ 200) : smD (en ns : D) = true := smL_iff.mpr fun x m => by
  obtain ⟨n, hn, rfl⟩ := List.mem_map.mp m
  exact decide_eq_true (h n hn)
theorem nb_ints (ns : List Int) : (en ns : D).nb = true := D.nbL_iff.mpr fun x m => by
  obtain ⟨n, hn, rfl⟩ := List.mem_map.mp m
  rfl
theorem reprT_of {α : Type} [Ty α] {a : α} (h : showOk (en a) = true) : reprT a = some (en a).py.shown := if_pos h
end TL

set_option Elab.async false
set_option linter.all false
set_option maxRecDepth 100000
/-! TL7: sets, index, default, and/or with draws. -/
namespace TL
open PySem PySem.Spec PyProof.Rows L2 VL
open Ty (en)
section
variable {α : Type} [Ty α] [DecidableEq α] [TyOrd α] {φ : Fs} {f g : VL.Env → Option D}
class TyLin (α : Type) [Ty α] [DecidableEq α] [TyOrd α] : Prop where
  lin : ∀ a b : α, a = b ∨ TyOrd.lt a b = true ∨ TyOrd.lt b a = true
instance : TyLin Int := ⟨fun a b => by
  show a = b ∨ decide (a < b) = true ∨ decide (b < a) = true
  simp only [decide_eq_true_eq]
  rcases Int.lt_trichotomy a b with h | h | h
  · exact .inr (.inl h)
  · exact .inl h
  · exact .inr (.inr h)⟩
theorem ltThen_lin {β : Type} [Ty β] [DecidableEq β] [TyOrd β] [TyLin β] (a b : β) {p : Prop} {x y : Bool} (h : p ∨ x = true ∨ y = true) : (a = b ∧ p) ∨ ltThen a b x = true ∨ ltThen b a y = true := by
  unfold ltThen
  by_cases c : a = b
  · subst c
    rw [if_pos rfl, if_pos rfl]
    rcases h with h | h
    · exact .inl ⟨rfl, h⟩
    · exact .inr h
  · rw [if_neg c, if_neg (Ne.symm c)]
    rcases TyLin.lin a b with h | h
    · exact absurd h c
    · exact .inr h
instance {β : Type} [TyLin α] [Ty β] [DecidableEq β] [TyOrd β] [TyLin β] : TyLin (α × β) := ⟨fun a b => by
  show a = b ∨ ltThen a.1 b.1 (ltThen a.2 b.2 false) = true ∨ ltThen b.1 a.1 (ltThen b.2 a.2 false) = true
  rcases ltThen_lin a.1 b.1 (ltThen_lin a.2 b.2 (Or.inl (a := True) trivial)) with ⟨h, h2, _⟩ | h
  · exact .inl (Prod.ext h h2)
  · exact .inr h⟩
/-- sorted(set(xs)) -/
def setT (xs : List α) : Option (List α) := if xs.length < 64 then some (sortT (ddup xs)) else none
class TySet (α : Type) [Ty α] [DecidableEq α] [TyOrd α] : Prop where
  so : ∀ xs : List α, xs.length < 64 → setSo (xs.map en) = some ((sortT (ddup xs)).map en)
instance : TySet Int := ⟨fun xs h => by
  show setSo (xs.map D.int) = _
  unfold setSo
  rw [intsOf_map]
  dsimp only
  rw [if_pos h]
  exact congrArg some (sortD_en (ddup xs))⟩
theorem ddup_map {β γ : Type} [DecidableEq β] [DecidableEq γ] {k : β → γ} (inj : ∀ a b, k a = k b → a = b) : ∀ xs : List β, ddup (xs.map k) = (ddup xs).map k
  | [] => rfl
  | x :: xs => by
    have e : k x ∈ xs.map k ↔ x ∈ xs := ⟨fun m => by obtain ⟨y, m, e⟩ := List.mem_map.mp m; rwa [← inj _ _ e], fun m => List.mem_map.mpr ⟨x, m, rfl⟩⟩
    show (if k x ∈ xs.map k then ddup (xs.map k) else k x :: ddup (xs.map k)) = (if x ∈ xs then ddup xs else x :: ddup xs).map k
    rw [ddup_map inj xs]
    by_cases c : x ∈ xs
    · rw [if_pos (e.mpr c), if_pos c]
    · rw [if_neg fun q => c (e.mp q), if_neg c]; rfl
theorem TySet.ofTup [TyLin α] (ti : α → List Int) (he : ∀ a : α, en a = encT (ti a)) (inj : ∀ a b, ti a = ti b → a = b) (hn : TyEq.n α ≤ 40) : TySet α := ⟨fun xs h => by
  have e : xs.map (en (α := α)) = (xs.map ti).map encT := by rw [List.map_map]; exact List.map_congr_left fun a _ => he a
  have e2 : ((ddup xs).map (en (α := α))) = (ddup (xs.map ti)).map encT := by rw [ddup_map inj, List.map_map]; exact List.map_congr_left fun a _ => he a
  cases xs with
  | nil => simp [setSo, intsOf, ddup, sortD, sortT]
  | cons x xs =>
    unfold setSo
    have hi : intsOf ((x :: xs).map (en (α := α))) = none := by
      rw [List.map_cons, he x]
      rfl
    rw [hi]
    dsimp only
    rw [e, tupsIs_map, Option.bind_some, if_pos, ← e2, sortD_en]
    refine ⟨by rw [List.length_map]; exact h, by rw [← e]; exact sortOk_en _ hn (by rw [sizeLine_eq]; omega), fun a ha b hb => ?_⟩
    obtain ⟨p, _, rfl⟩ := List.mem_map.mp ha
    obtain ⟨q, _, rfl⟩ := List.mem_map.mp hb
    rw [← he p, ← he q, TyOrd.ltOk, TyOrd.ltOk]
    rcases TyLin.lin p q with z | z
    · exact .inl (by rw [z])
    · exact .inr z⟩
instance : TySet (Int × Int) := TySet.ofTup (fun p => [p.1, p.2]) (fun _ => rfl) (fun a b h => by simp only [List.cons.injEq, and_true] at h; exact Prod.ext h.1 h.2) (by decide)
theorem elo_set [TySet α] {xs : List α} (h : EV φ f xs) : ELo φ (dSetSo f) (setT xs) := fun env s v e => by
  unfold setT at e
  split at e
  · rename_i hl
    cases e
    simp only [dSetSo, h env s, Option.bind_some]
    exact TySet.so xs hl
  · cases e
theorem elo_setI {xs : List Int} (h : EV φ f xs) : ELo φ (dSetSoI f) (setT xs) := fun env s v e => by
  unfold setT at e
  split at e
  · rename_i hl
    cases e
    simp only [dSetSoI, h env s, Option.bind_some]
    show (intsOf (xs.map D.int)).bind _ = _
    rw [intsOf_map, Option.bind_some, if_pos hl]
    exact congrArg some (sortD_en (ddup xs))
  · cases e
def lenSetT (xs : List Int) : Option Int := if xs.length < 2000 then some ((ddup xs).length : Int) else none
theorem eo_lenSet {xs : List Int} (h : EV φ f xs) : EO φ (dLenSet f) (lenSetT xs) := fun env s v e => by
  unfold lenSetT at e
  split at e
  · rename_i hl
    cases e
    simp only [dLenSet, h env s, Option.bind_some]
    show (intsOf (xs.map D.int)).bind _ = _
    rw [intsOf_map, Option.bind_some, if_pos hl]
    rfl
  · cases e
/-! index -/
class TyLay (α : Type) [Ty α] : Prop where
  lay : ∀ a : α, (en a).py.canLay0 = true
  dp : ∀ a : α, (en a).py.depth ≤ 60
instance : TyLay Int := ⟨fun _ => rfl, fun _ => by show PyData.depth (.int _) ≤ 60; simp [PyData.depth]⟩
def idxT {β : Type} [DecidableEq β] (x : β) : List β → Option Nat
  | [] => none
  | y :: ys => if y = x then some 0 else (idxT x ys).map (· + 1)
theorem idxD_en (x : α) : ∀ xs : List α, idxD (en x) (xs.map en) = idxT x xs
  | [] => rfl
  | y :: ys => by
    show (if PyData.eqv (en y).py (en x).py = true then some 0 else (idxD (en x) (ys.map en)).map (· + 1)) = _
    rw [eqv_en, idxD_en x ys]
    show _ = (if y = x then some 0 else (idxT x ys).map (· + 1))
    by_cases c : y = x
    · rw [if_pos (decide_eq_true c), if_pos c]
    · rw [if_neg (by simpa using c), if_neg c]
def indexT {β : Type} [DecidableEq β] (xs : List β) (x : β) : Option Int := (idxT x xs).map fun (j : Nat) => (j : Int)
theorem layL [TyLay α] : ∀ xs : List α, PyData.canLayAll0 (D.pyL (xs.map en)) = true ∧ PyData.depthAll (D.pyL (xs.map en)) ≤ 60
  | [] => by simp [D.pyL, PyData.canLayAll0, PyData.depthAll]
  | x :: xs => by
    have := layL xs
    have h1 := TyLay.lay x
    have h2 := TyLay.dp x
    simp only [List.map_cons, D.pyL, PyData.canLayAll0, PyData.depthAll, h1, this.1, Bool.and_self, true_and]
    omega
theorem op_index [TyLay α] (xs : List α) (x : α) : O2o dIndex xs x (indexT xs x) := fun c e => by
  obtain ⟨j, h1, rfl⟩ := Option.map_eq_some_iff.mp e
  show (if (D.plain (.lst (xs.map en)) && D.plain (en x) && SeqAt.shaped (D.py (.lst (xs.map en))) && SeqAt.shaped (en x).py) = true then (idxD (en x) (xs.map en)).map fun (j : Nat) => D.int (j : Int) else none) = _
  have hl := layL xs
  rw [if_pos, idxD_en, h1]
  · rfl
  · have h1 := TyLay.lay x
    have h2 := TyLay.dp x
    have a1 : D.plain (.lst (xs.map en)) = true := pl_map xs
    have a2 : SeqAt.shaped (D.py (.lst (xs.map en))) = true := by
      show SeqAt.shaped (.list (D.pyL (xs.map en))) = true
      unfold SeqAt.shaped
      simp only [PyData.canLay0, PyData.depth, hl.1, Bool.true_and]
      have := hl.2
      exact decide_eq_true (by omega)
    have a3 : SeqAt.shaped (en x).py = true := by
      unfold SeqAt.shaped
      simp only [h1, Bool.true_and]
      exact decide_eq_true (by omega)
    rw [a1, a2, a3, TyEq.pl]; rfl
/-! default -/
def minDfT (xs : List α) (z : α) : Option α := if xs.isEmpty then some z else minT xs
theorem op_minDf (xs : List α) (z : α) (h : TyEq.n α ≤ 40 := by decide) : O2o dMinDf xs z (minDfT xs z) := fun c e => by
  cases xs with
  | nil => cases e; rfl
  | cons x xs => exact dMinA_en h (show minT (x :: xs) = some c from e)
end
def powT (a b : Int) : Option Int := if CPow a b then some (a ^ b.toNat) else none
theorem op_pow (a b : Int) : O2o dPow a b (powT a b) := fun c e => by
  unfold powT at e
  show (if CPow a b then some (D.int (a ^ b.toNat)) else none) = _
  split at e
  · rename_i h
    cases e
    rw [if_pos h]; rfl
  · cases e
section
variable {φ : Fs2} {f g : Mo D} {ma mb : Dr Bool}
theorem gm_and2 (ha : GM φ (en (α := Bool)) f ma) (hb : GM φ (en (α := Bool)) g mb) : GM φ (en (α := Bool)) (mAnd2 f g) (bnd ma fun a => if a = true then mb else ret false) := fun env st s Q q => by
  obtain ⟨a, e1, s1, h1, h2, h3⟩ := ha env st s _ q
  cases a
  · exact ⟨false, e1, s1, by simp only [mAnd2, h1, Option.bind_some]; rfl, h2, h3⟩
  · obtain ⟨b, e2, s2, h4, h5, h6⟩ := hb e1 s1 h2 _ h3
    exact ⟨b, e2, s2, by simp only [mAnd2, h1, Option.bind_some]; exact h4, h5, h6⟩
theorem gm_or2 (ha : GM φ (en (α := Bool)) f ma) (hb : GM φ (en (α := Bool)) g mb) : GM φ (en (α := Bool)) (mOr2 f g) (bnd ma fun a => if a = true then ret true else mb) := fun env st s Q q => by
  obtain ⟨a, e1, s1, h1, h2, h3⟩ := ha env st s _ q
  cases a
  · obtain ⟨b, e2, s2, h4, h5, h6⟩ := hb e1 s1 h2 _ h3
    exact ⟨b, e2, s2, by simp only [mOr2, h1, Option.bind_some]; exact h4, h5, h6⟩
  · exact ⟨true, e1, s1, by simp only [mOr2, h1, Option.bind_some]; rfl, h2, h3⟩
end
end TL

set_option Elab.async false
set_option linter.all false
set_option maxRecDepth 100000
/-! TL8: reasoning backwards: what is wanted behind is brought ahead. -/
namespace TL
open PySem PySem.Spec PyProof.Rows L2 VL
open Ty (en)
section
variable {α β γ σ σ' ρ τ τ' : Type}
theorem lift_bind' (o : Option α) (f : α → Option β) : lift (o.bind f) = bnd (lift o) fun a => lift (f a) := by
  funext Q
  cases o with
  | none => exact propext ⟨fun ⟨_, e, _⟩ => (by cases e), fun ⟨_, e, _⟩ => (by cases e)⟩
  | some a => exact propext ⟨fun h => ⟨a, rfl, h⟩, fun ⟨b, e, h⟩ => by cases e; exact h⟩
theorem lift_map' (o : Option α) (f : α → β) : lift (o.map f) = bnd (lift o) fun a => ret (f a) := by
  funext Q
  cases o with
  | none => exact propext ⟨fun ⟨_, e, _⟩ => (by cases e), fun ⟨_, e, _⟩ => (by cases e)⟩
  | some a => exact propext ⟨fun ⟨b, e, h⟩ => by cases e; exact ⟨a, rfl, h⟩, fun ⟨b, e, h⟩ => by cases e; exact ⟨_, rfl, h⟩⟩
theorem lift_ite' (c : Prop) [Decidable c] (a b : Option α) : lift (if c then a else b) = if c then lift a else lift b := by
  by_cases h : c
  · rw [if_pos h, if_pos h]
  · rw [if_neg h, if_neg h]
theorem ite_app' (c : Prop) [Decidable c] (a b : Dr α) (Q : α → Prop) : (if c then a else b) Q = if c then a Q else b Q := by
  by_cases h : c
  · rw [if_pos h, if_pos h]
  · rw [if_neg h, if_neg h]
theorem lift_sqT' (m : Option (Flow τ σ ρ)) (k : τ → Option (Flow τ' σ ρ)) : lift (sqT m k) = bndF (lift m) fun t => lift (k t) := by
  funext Q
  unfold sqT bndF
  cases m with
  | none => exact propext ⟨fun ⟨_, e, _⟩ => (by cases e), fun ⟨_, e, _⟩ => (by cases e)⟩
  | some fl =>
    refine propext ⟨fun h => ⟨fl, rfl, ?_⟩, fun ⟨b, e, h⟩ => ?_⟩
    · cases fl with
      | nx t => exact h
      | bk t => obtain ⟨_, e, h⟩ := h; cases e; exact h
      | ct t => obtain ⟨_, e, h⟩ := h; cases e; exact h
      | rt t => obtain ⟨_, e, h⟩ := h; cases e; exact h
    · cases e
      cases fl with
      | nx t => exact h
      | bk t => exact ⟨_, rfl, h⟩
      | ct t => exact ⟨_, rfl, h⟩
      | rt t => exact ⟨_, rfl, h⟩
theorem lift_ansT' (m : Option (Flow Unit Empty ρ)) : lift (ansT m) = ansM (lift m) := by
  funext Q
  unfold ansT ansM
  cases m with
  | none => exact propext ⟨fun ⟨_, e, _⟩ => (by cases e), fun ⟨_, e, _⟩ => (by cases e)⟩
  | some fl =>
    refine propext ⟨fun h => ⟨fl, rfl, ?_⟩, fun ⟨b, e, h⟩ => ?_⟩
    · cases fl with
      | nx t => obtain ⟨_, e, _⟩ := h; cases e
      | bk t => exact t.elim
      | ct t => exact t.elim
      | rt t => obtain ⟨_, e, h⟩ := h; cases e; exact h
    · cases e
      cases fl with
      | nx t => exact h.elim
      | bk t => exact t.elim
      | ct t => exact t.elim
      | rt t => exact ⟨_, rfl, h⟩
/-- what is wanted at the end, None if nothing is told -/
def anN (d : ρ) (Q : ρ → Prop) : Flow Unit Empty ρ → Prop
  | .rt r => Q r
  | .nx _ => Q d
  | _ => False
theorem anN_rt (d : ρ) (Q : ρ → Prop) (r : ρ) : anN d Q (.rt r) = Q r := propext ⟨id, id⟩
theorem anN_nx (d : ρ) (Q : ρ → Prop) (r : Unit) : anN d Q (.nx r) = Q d := propext ⟨id, id⟩
theorem lift_ansN' (d : ρ) (m : Option (Flow Unit Empty ρ)) (Q : ρ → Prop) : lift (ansN d m) Q = lift m (anN d Q) := by
  unfold ansN
  cases m with
  | none => exact propext ⟨fun ⟨_, e, _⟩ => (by cases e), fun ⟨_, e, _⟩ => (by cases e)⟩
  | some fl =>
    refine propext ⟨fun h => ⟨fl, rfl, ?_⟩, fun ⟨b, e, h⟩ => ?_⟩
    · cases fl with
      | nx t => obtain ⟨_, e, h⟩ := h; cases e; exact h
      | bk t => exact t.elim
      | ct t => exact t.elim
      | rt t => obtain ⟨_, e, h⟩ := h; cases e; exact h
    · cases e
      cases fl with
      | nx t => exact ⟨_, rfl, h⟩
      | bk t => exact t.elim
      | ct t => exact t.elim
      | rt t => exact ⟨_, rfl, h⟩
theorem not_tt {b : Bool} : ((!b) = true) = (b = false) := by cases b <;> simp
theorem not_ff {b : Bool} : ((!b) = false) = (b = true) := by cases b <;> simp
theorem dec_tt {p : Prop} [Decidable p] : (decide p = true) = p := decide_eq_true_eq
theorem dec_ff {p : Prop} [Decidable p] : ((decide p = false) = ¬ p) := propext decide_eq_false_iff_not
/-- all the rules, for simp only -/
theorem wpr : (∀ {α β : Type} (o : Option α) (f : α → Option β), lift (o.bind f) = bnd (lift o) fun a => lift (f a))
    ∧ (∀ {α β : Type} (o : Option α) (f : α → β), lift (o.map f) = bnd (lift o) fun a => ret (f a))
    ∧ (∀ {α : Type} (c : Prop) [Decidable c] (a b : Option α), lift (if c then a else b) = if c then lift a else lift b)
    ∧ (∀ {α : Type} (c : Prop) [Decidable c] (a b : Dr α) (Q : α → Prop), (if c then a else b) Q = if c then a Q else b Q)
    ∧ (∀ {τ τ' σ ρ : Type} (m : Option (Flow τ σ ρ)) (k : τ → Option (Flow τ' σ ρ)), lift (sqT m k) = bndF (lift m) fun t => lift (k t))
    ∧ (∀ {ρ : Type} (m : Option (Flow Unit Empty ρ)), lift (ansT m) = ansM (lift m))
    ∧ (∀ {ρ : Type} (d : ρ) (m : Option (Flow Unit Empty ρ)) (Q : ρ → Prop), lift (ansN d m) Q = lift m (anN d Q))
    ∧ (∀ {ρ : Type} (m : Dr (Flow Unit Empty ρ)) (Q : ρ → Prop), ansM m Q = m (anF Q))
    ∧ (∀ {α β : Type} (a : α) (k : α → Dr β), bnd (ret a) k = k a)
    ∧ (∀ {α β γ : Type} (m : Dr α) (k : α → Dr β) (l : β → Dr γ), bnd (bnd m k) l = bnd m fun a => bnd (k a) l)
    ∧ (∀ {α β : Type} (m : Dr α) (k : α → Dr β) (Q : β → Prop), bnd m k Q = m fun a => k a Q)
    ∧ (∀ {α : Type} (a : α) (Q : α → Prop), ret a Q = Q a)
    ∧ (∀ {α : Type} (a : α), lift (some a) = ret a)
    ∧ (∀ {τ τ' σ ρ : Type} (m : Dr (Flow τ σ ρ)) (k : τ → Dr (Flow τ' σ ρ)) (Q : Flow τ' σ ρ → Prop), bndF m k Q = m (afF k Q))
    ∧ (∀ {τ τ' σ ρ : Type} (k : τ → Dr (Flow τ' σ ρ)) (Q : Flow τ' σ ρ → Prop) (t : τ), afF k Q (.nx t) = k t Q)
    ∧ (∀ {τ τ' σ ρ : Type} (k : τ → Dr (Flow τ' σ ρ)) (Q : Flow τ' σ ρ → Prop) (t : ρ), afF k Q (.rt t) = Q (.rt t))
    ∧ (∀ {ρ : Type} (Q : ρ → Prop) (r : ρ), anF Q (.rt r) = Q r)
    ∧ (∀ {ρ : Type} (d : ρ) (Q : ρ → Prop) (r : ρ), anN d Q (.rt r) = Q r)
    ∧ (∀ {ρ : Type} (d : ρ) (Q : ρ → Prop) (r : Unit), anN d Q (.nx r) = Q d)
    ∧ (∀ {b : Bool}, ((!b) = true) = (b = false))
    ∧ (∀ {p : Prop} [Decidable p], (decide p = true) = p)
    ∧ (∀ {p : Prop} [Decidable p], (decide p = false) = ¬ p) :=
  ⟨lift_bind', lift_map', lift_ite', ite_app', lift_sqT', lift_ansT', lift_ansN', ansM_app, bnd_ret, bnd_bnd, bnd_app, ret_app, lift_some, bndF_app, afF_nx, afF_rt, anF_rt, anN_rt, anN_nx, not_tt, dec_tt, dec_ff⟩
/-! the rules that ask -/
theorem iteP {c : Prop} [Decidable c] {a b : Prop} (h : c → a) (k : ¬ c → b) : if c then a else b := by
  by_cases x : c
  · rw [if_pos x]; exact h x
  · rw [if_neg x]; exact k x
theorem iteY {c : Prop} [Decidable c] {a b : Prop} (x : c) (h : a) : if c then a else b := by rw [if_pos x]; exact h
theorem iteN {c : Prop} [Decidable c] {a b : Prop} (x : ¬ c) (h : b) : if c then a else b := by rw [if_neg x]; exact h
theorem lift_mono {o : Option α} {P Q : α → Prop} (h : lift o P) (k : ∀ a, P a → Q a) : lift o Q := by
  obtain ⟨a, e, p⟩ := h
  exact ⟨a, e, k a p⟩
theorem lift_to {o : Option α} {a : α} (h : lift o fun x => x = a) : o = some a := by
  obtain ⟨_, e, rfl⟩ := h
  exact e
theorem lift_is {o : Option α} {a : α} (h : o = some a) : lift o fun x => x = a := ⟨a, h, rfl⟩
/-- a walk, with what is done so far -/
theorem loopL {body : α → σ → Option (Flow σ σ ρ)} {Q : Flow σ σ' ρ → Prop} (I : List α → σ → Prop) {xs : List α} {s : σ} (h0 : I [] s)
    (hs : ∀ pre x post s, xs = pre ++ x :: post → I pre s → ∀ R : Flow σ σ ρ → Prop, (∀ s', I (pre ++ [x]) s' → R (.nx s')) → (∀ s', I (pre ++ [x]) s' → R (.ct s')) → (∀ s', Q (.nx s') → R (.bk s')) → (∀ r, Q (.rt r) → R (.rt r)) → lift (body x s) R)
    (he : ∀ s, I xs s → Q (.nx s)) : lift (loopT body xs s) Q := by
  refine loopT_ok (P := Q) I (done := []) h0 (fun pre x post s e i => ?_) (fun s i => he s i)
  exact hs pre x post s e i (fun fl => match fl with
      | .nx s' => I (pre ++ [x]) s'
      | .ct s' => I (pre ++ [x]) s'
      | .bk s' => Q (.nx s')
      | .rt r => Q (.rt r)) (fun _ h => h) (fun _ h => h) (fun _ h => h) (fun _ h => h)
/-- the same, no counting -/
theorem loopLu {body : α → σ → Option (Flow σ σ ρ)} {Q : Flow σ σ' ρ → Prop} (I : σ → Prop) {xs : List α} {s : σ} (h0 : I s)
    (hs : ∀ x ∈ xs, ∀ s, I s → ∀ R : Flow σ σ ρ → Prop, (∀ s', I s' → R (.nx s')) → (∀ s', I s' → R (.ct s')) → (∀ s', Q (.nx s') → R (.bk s')) → (∀ r, Q (.rt r) → R (.rt r)) → lift (body x s) R)
    (he : ∀ s, I s → Q (.nx s)) : lift (loopT body xs s) Q :=
  loopL (fun _ => I) h0 (fun pre x post s e i => hs x (by rw [e]; simp) s i) he
/-- a walk that folds -/
theorem loopLf {body : α → σ → Option (Flow σ σ ρ)} {Q : Flow σ σ' ρ → Prop} (f : σ → α → σ) (J : σ → Prop) {xs : List α} {s : σ} (h0 : J s)
    (hs : ∀ x ∈ xs, ∀ s, J s → J (f s x) ∧ lift (body x s) fun fl => fl = .nx (f s x)) (he : J (xs.foldl f s) → Q (.nx (xs.foldl f s))) : lift (loopT body xs s) Q := by
  obtain ⟨e, j⟩ := loopT_foldJ (σ' := σ') J h0 (xs := xs) (f := f) (body := body) fun x m s j => ⟨lift_to (hs x m s j).2, (hs x m s j).1⟩
  exact ⟨_, e, he j⟩
/-- a walk that looks for the first -/
theorem loopLs {body : α → Unit → Option (Flow Unit Unit ρ)} {Q : Flow Unit σ' ρ → Prop} (r : α → Option ρ) {xs : List α}
    (hs : ∀ x ∈ xs, lift (body x ()) fun fl => fl = foundF (r x)) (he : Q (foundF (xs.findSome? r))) : lift (loopT body xs ()) Q :=
  ⟨_, loopT_find fun x m => lift_to (hs x m), he⟩
theorem whL {c : σ → Option Bool} {body : σ → Option (Flow σ σ ρ)} {Q : Flow σ σ' ρ → Prop} (I : σ → Prop) (μ : σ → Nat) {n : Nat} {s : σ} (h0 : I s) (hn : μ s < n)
    (hc : ∀ s, I s → lift (c s) fun b => (b = false → Q (.nx s)) ∧ (b = true → ∀ R : Flow σ σ ρ → Prop, (∀ s', I s' → μ s' < μ s → R (.nx s')) → (∀ s', I s' → μ s' < μ s → R (.ct s')) → (∀ s', Q (.nx s') → R (.bk s')) → (∀ r, Q (.rt r) → R (.rt r)) → lift (body s) R)) :
    lift (whT c body n s) Q := by
  refine whT_ok (P := Q) I μ h0 hn (fun s i e => ?_) (fun s i => ?_) fun s i e => ?_
  · obtain ⟨b, e', h1, _⟩ := hc s i
    rw [e] at e'; cases e'
    exact h1 rfl
  · obtain ⟨b, e', _⟩ := hc s i
    exact ⟨b, e'⟩
  · obtain ⟨b, e', _, h2⟩ := hc s i
    rw [e] at e'; cases e'
    exact h2 rfl (fun fl => match fl with
      | .nx s' => I s' ∧ μ s' < μ s
      | .ct s' => I s' ∧ μ s' < μ s
      | .bk s' => Q (.nx s')
      | .rt r => Q (.rt r)) (fun _ h h' => ⟨h, h'⟩) (fun _ h h' => ⟨h, h'⟩) (fun _ h => h) (fun _ h => h)
theorem mapL {g : α → Option β} {Q : List β → Prop} (f : α → β) {xs : List α} (h : ∀ x ∈ xs, lift (g x) fun y => y = f x) (q : Q (xs.map f)) : lift (mapT g xs) Q :=
  ⟨_, mapT_some fun x m => lift_to (h x m), q⟩
theorem compL {c : α → Option Bool} {g : α → Option β} {Q : List β → Prop} (b : α → Bool) (f : α → β) {xs : List α} (hc : ∀ x ∈ xs, lift (c x) fun y => y = b x) (h : ∀ x ∈ xs, b x = true → lift (g x) fun y => y = f x)
    (q : Q ((xs.filter b).map f)) : lift (compT c g xs) Q :=
  ⟨_, compT_some (fun x m => lift_to (hc x m)) fun x m e => lift_to (h x m e), q⟩
inductive All2 (P : α → β → Prop) : List α → List β → Prop
  | nil : All2 P [] []
  | cons {x : α} {y : β} {xs : List α} {ys : List β} : P x y → All2 P xs ys → All2 P (x :: xs) (y :: ys)
/-- a comprehension, told by what holds of each -/
theorem mapLP {g : α → Option β} (P : α → β → Prop) : ∀ {xs : List α} {Q : List β → Prop}, (∀ x ∈ xs, lift (g x) (P x)) → (∀ ys, All2 P xs ys → Q ys) → lift (mapT g xs) Q
  | [], Q, _, q => ⟨[], rfl, q [] .nil⟩
  | x :: xs, Q, h, q => by
    obtain ⟨y, e, p⟩ := h x (List.mem_cons_self ..)
    obtain ⟨ys, e', p'⟩ := mapLP P (Q := fun ys => All2 P xs ys) (fun z m => h z (List.mem_cons_of_mem _ m)) fun ys f => f
    refine ⟨y :: ys, ?_, q _ (.cons p p')⟩
    show (g x).bind _ = _
    rw [e, Option.bind_some, e']; rfl
theorem rngL {n : Int} {Q : List Int → Prop} (h : n.natAbs ≤ 16777216) (q : Q (rangeT 0 n)) : lift (rngT n) Q := ⟨_, rngT_ok h, q⟩
theorem rng2L {a b : Int} {Q : List Int → Prop} (h : a.natAbs ≤ 4000000) (h' : b.natAbs ≤ 4000000) (q : Q (rangeT a b)) : lift (rng2T a b) Q := ⟨_, rng2T_ok h h', q⟩
theorem atL {xs : List α} {i : Int} {Q : α → Prop} (h : 0 ≤ i) (h' : i < xs.length) (q : ∀ x, xs[i.toNat]? = some x → Q x) : lift (atI xs i) Q := by
  obtain ⟨x, e, e'⟩ := atI_ok h h'
  exact ⟨x, e, q x e'⟩
theorem at1L {xs : List α} {Q : α → Prop} (h : xs ≠ []) (q : ∀ x, xs.getLast? = some x → Q x) : lift (atI xs (-1)) Q := by
  obtain ⟨x, e⟩ : ∃ x, xs.getLast? = some x := ⟨_, List.getLast?_eq_some_getLast h⟩
  exact ⟨x, by rw [atI_neg1]; exact e, q x e⟩
theorem addLL {xs ys : List α} {Q : List α → Prop} (h : xs.length + ys.length ≤ 16777216) (q : Q (xs ++ ys)) : lift (addL xs ys) Q := ⟨_, addL_ok h, q⟩
theorem apL {xs : List α} {x : α} {Q : List α → Prop} (h : xs.length < 16777216) (q : Q (xs ++ [x])) : lift (apT xs x) Q := ⟨_, apT_ok h, q⟩
theorem putL {xs : List α} {i : Int} {x : α} {Q : List α → Prop} (h : 0 ≤ i) (h' : i < xs.length) (q : Q (xs.set i.toNat x)) : lift (putT xs i x) Q := ⟨_, putT_ok h h', q⟩
theorem mulLl {a b : Int} {Q : Int → Prop} (h : a.natAbs < 2 ^ 64) (q : Q (a * b)) : lift (mulT a b) Q := ⟨_, mulT_l h, q⟩
theorem mulLr {a b : Int} {Q : Int → Prop} (h : b.natAbs < 2 ^ 64) (q : Q (a * b)) : lift (mulT a b) Q := ⟨_, mulT_r h, q⟩
section
variable [Ty α] [DecidableEq α] [TyOrd α]
theorem sortL {xs : List α} {Q : List α → Prop} (h : xs.length ≤ 16777216) (q : Q (sortT xs)) : lift (sortO xs) Q := ⟨_, sortO_ok h, q⟩
theorem minL {xs : List α} {Q : α → Prop} (h : xs ≠ []) (q : ∀ m, m ∈ xs → (∀ y ∈ xs, leT m y = true) → Q m) : lift (minT xs) Q := by
  obtain ⟨m, e⟩ := minT_ne h
  obtain ⟨h1, h2⟩ := minT_some e
  exact ⟨m, e, q m h1 h2⟩
theorem maxL {xs : List α} {Q : α → Prop} (h : xs ≠ []) (q : ∀ m, m ∈ xs → (∀ y ∈ xs, leT y m = true) → Q m) : lift (maxT xs) Q := by
  obtain ⟨m, e⟩ := maxT_ne h
  obtain ⟨h1, h2⟩ := maxT_some e
  exact ⟨m, e, q m h1 h2⟩
theorem setL {xs : List α} {Q : List α → Prop} (h : xs.length < 64) (q : Q (sortT (ddup xs))) : lift (setT xs) Q := ⟨_, if_pos h, q⟩
end
theorem leT_int' (a b : Int) : leT a b = true ↔ a ≤ b := by rw [leT_int, decide_eq_true_eq]
theorem minLi {xs : List Int} {Q : Int → Prop} (h : xs ≠ []) (q : ∀ m, m ∈ xs → (∀ y ∈ xs, m ≤ y) → Q m) : lift (minT xs) Q :=
  minL h fun m h1 h2 => q m h1 fun y hy => (leT_int' m y).mp (h2 y hy)
theorem maxLi {xs : List Int} {Q : Int → Prop} (h : xs ≠ []) (q : ∀ m, m ∈ xs → (∀ y ∈ xs, y ≤ m) → Q m) : lift (maxT xs) Q :=
  maxL h fun m h1 h2 => q m h1 fun y hy => (leT_int' y m).mp (h2 y hy)
end
end TL

set_option maxHeartbeats 4000000
namespace Law
open PySem PyProof.Rows L2 VL
def topS (i : Nat) : Stmt := PySem.Challenge.pw_foldwright_k71_worst_cases_by_all_sets.main.body.getD i (.Pass ⟨0, 0, 0, 0⟩)
abbrev s_worst : Stmt := topS 1
abbrev s_worst_fault : Stmt := topS 2
abbrev s_offer : Stmt := topS 3
abbrev s_regret : Stmt := topS 4
abbrev s_levels : Stmt := topS 5
abbrev s_scrap_of : Stmt := topS 6
abbrev s_shared : Stmt := topS 7
abbrev s_shared_fault : Stmt := topS 8
abbrev s__law_state : Stmt := topS 10
abbrev s__law_take : Stmt := topS 11
abbrev s__law_offer : Stmt := topS 12
abbrev s__law_worst : Stmt := topS 13
abbrev s__law_fault : Stmt := topS 14
abbrev s__law_shared : Stmt := topS 15
abbrev s__law_shared_fault : Stmt := topS 16
abbrev s__law_shares_right : Stmt := topS 17
abbrev s_law : Stmt := topS 18
theorem sc_worst : FnScope ["rows", "many", "gains", "at", "low", "high", "chosen", "gain"] ["rows", "many"] (defScope s_worst) := ⟨rfl, rfl, rfl, by decide +kernel, rfl, by decide +kernel, by decide +kernel⟩
theorem sc_worst_fault : FnScope ["rows", "many", "told", "cost", "chosen", "at", "total", "low", "high", "least"] ["rows", "many", "told"] (defScope s_worst_fault) := ⟨rfl, rfl, rfl, by decide +kernel, rfl, by decide +kernel, by decide +kernel⟩
theorem sc_offer : FnScope ["offers", "many", "costs", "rows"] ["offers", "many"] (defScope s_offer) := ⟨rfl, rfl, rfl, by decide +kernel, rfl, by decide +kernel, by decide +kernel⟩
theorem sc_regret : FnScope ["offers", "many", "costs", "rows", "cost"] ["offers", "many"] (defScope s_regret) := ⟨rfl, rfl, rfl, by decide +kernel, rfl, by decide +kernel, by decide +kernel⟩
theorem sc_levels : FnScope ["offers", "longest", "rows", "found", "many", "best"] ["offers"] (defScope s_levels) := ⟨rfl, rfl, rfl, by decide +kernel, rfl, by decide +kernel, by decide +kernel⟩
theorem sc_scrap_of : FnScope ["cells", "width", "height"] ["cells", "width", "height"] (defScope s_scrap_of) := ⟨rfl, rfl, rfl, by decide +kernel, rfl, by decide +kernel, by decide +kernel⟩
theorem sc_shared : FnScope ["cents", "weights", "whole", "_", "parts", "weight", "rests", "at", "rest"] ["cents", "weights"] (defScope s_shared) := ⟨rfl, rfl, rfl, by decide +kernel, rfl, by decide +kernel, by decide +kernel⟩
theorem sc_shared_fault : FnScope ["cents", "weights", "parts", "whole", "gaps", "at", "weight", "one", "other"] ["cents", "weights", "parts"] (defScope s_shared_fault) := ⟨rfl, rfl, rfl, by decide +kernel, rfl, by decide +kernel, by decide +kernel⟩
theorem sc__law_state : FnScope ["script", "cells", "cell"] ["script"] (defScope s__law_state) := ⟨rfl, rfl, rfl, by decide +kernel, rfl, by decide +kernel, by decide +kernel⟩
theorem sc__law_take : FnScope ["state", "most", "cells", "at", "cell", "mixed"] ["state", "most"] (defScope s__law_take) := ⟨rfl, rfl, rfl, by decide +kernel, rfl, by decide +kernel, by decide +kernel⟩
theorem sc__law_offer : FnScope ["state", "found", "k", "low"] ["state"] (defScope s__law_offer) := ⟨rfl, rfl, rfl, by decide +kernel, rfl, by decide +kernel, by decide +kernel⟩
theorem sc__law_worst : FnScope ["rows", "many", "gains", "low", "high"] ["rows", "many"] (defScope s__law_worst) := ⟨rfl, rfl, rfl, by decide +kernel, rfl, by decide +kernel, by decide +kernel⟩
theorem sc__law_fault : FnScope ["rows", "many", "told", "cost", "chosen", "k", "low", "high", "least"] ["rows", "many", "told"] (defScope s__law_fault) := ⟨rfl, rfl, rfl, by decide +kernel, rfl, by decide +kernel, by decide +kernel⟩
theorem sc__law_shared : FnScope ["cents", "weights", "whole", "one", "parts", "rests", "k"] ["cents", "weights"] (defScope s__law_shared) := ⟨rfl, rfl, rfl, by decide +kernel, rfl, by decide +kernel, by decide +kernel⟩
theorem sc__law_shared_fault : FnScope ["cents", "weights", "parts", "whole", "one", "i", "j", "more"] ["cents", "weights", "parts"] (defScope s__law_shared_fault) := ⟨rfl, rfl, rfl, by decide +kernel, rfl, by decide +kernel, by decide +kernel⟩
theorem sc__law_shares_right : FnScope ["state", "cents", "weights", "k", "parts", "other", "one", "two"] ["state"] (defScope s__law_shares_right) := ⟨rfl, rfl, rfl, by decide +kernel, rfl, by decide +kernel, by decide +kernel⟩
theorem sc_law : FnScope ["script", "state", "rows", "many", "kept", "told", "sets", "k", "row", "costs", "low", "high", "other", "offers", "one", "cost", "due", "count", "best"] ["script"] (defScope s_law) := ⟨rfl, rfl, rfl, by decide +kernel, rfl, by decide +kernel, by decide +kernel⟩
def d_worst : VL.Env → Option Out :=
  (sq (sSet 2 (fL (cL (aCons (fL (dComp [3, 4, 5] (iEn (dN 0)) (gT (gsC (gN 3) (gsC (gT (gsC (gN 4) (gsC (gN 5) gs0))) gs0))) cY (dTup (aCons (b2 (dN 4) (dN 5) dSub) (aCons (dN 3) a0))))) a0) dSorted)))
    (sq (sSet 6 (fL (cL (aCons (fL (dComp [7, 3] (iSq (fL (dCut (dN 2) sl0 (sl1 (dN 1))))) (gT (gsC (gN 7) (gsC (gN 3) gs0))) (tb (b2 (dN 7) (dK (.int 0)) dLt)) (dN 3))) a0) dSorted)))
    (sRet (dTup (aCons (b2 (cB (aCons (fL (dComp [4, 5] (iSq (dN 0)) (gT (gsC (gN 4) (gsC (gN 5) gs0))) cY (dN 4))) a0) dSum) (cB (aCons (fL (dComp [3] (iSq (dN 6)) (gN 3) cY (b2 (b2 (b2 (dN 0) (dN 3) dIx) (dK (.int 1)) dIx) (b2 (b2 (dN 0) (dN 3) dIx) (dK (.int 0)) dIx) dSub))) a0) dSum) dAdd) (aCons (dN 6) a0))))))
def F_worst : List D → Option S := fnS 2 8 d_worst
def d_worst_fault : VL.Env → Option Out :=
  (sq (sTg (gT (gsC (gN 3) (gsC (gN 4) gs0))) (dN 2))
    (sq (sIf (tOr2 (tb (b2 (dN 4) (fL (dSetSo (dN 4))) dNe)) (tOr2 (tNot1 (dTr (cB (aCons (fL (dComp [5] (iSq (dN 4)) (gN 5) cY (vChain (dK (.int 0)) (dN 5) (cB (aCons (dN 0) a0) dLen) dLe dLt))) a0) dAll))) (tb (b2 (cB (aCons (dN 4) a0) dLen) (dN 1) dGt)))) (sRet (dTup (aCons (dK (.str "chosen")) a0))) sNx)
    (sq (sSet 6 (b2 (cB (aCons (fL (dComp [7, 8] (iSq (dN 0)) (gT (gsC (gN 7) (gsC (gN 8) gs0))) cY (dN 7))) a0) dSum) (cB (aCons (fL (dComp [5] (iSq (dN 4)) (gN 5) cY (b2 (b2 (b2 (dN 0) (dN 5) dIx) (dK (.int 1)) dIx) (b2 (b2 (dN 0) (dN 5) dIx) (dK (.int 0)) dIx) dSub))) a0) dSum) dAdd))
    (sq (sIf (tb (b2 (dN 6) (dN 3) dNe)) (sRet (dTup (aCons (dK (.str "cost")) a0))) sNx)
    (sq (sIf (tb (b2 (dN 1) (dK (.int 0)) dEq)) (sRet (dK .non)) sNx)
    (sq (sSet 9 (vIf (tb (b2 (cB (aCons (dN 4) a0) dLen) (dN 1) dEq)) (b2 (fL (dComp [5] (iSq (dN 4)) (gN 5) cY (b2 (b2 (b2 (dN 0) (dN 5) dIx) (dK (.int 1)) dIx) (b2 (b2 (dN 0) (dN 5) dIx) (dK (.int 0)) dIx) dSub))) (dK (.int 0)) dMinDf) (dK (.int 0))))
    (sq (sFor (iEn (dN 0)) (gT (gsC (gN 5) (gsC (gT (gsC (gN 7) (gsC (gN 8) gs0))) gs0))) (sIf (tAnd2 (tb (b2 (dN 5) (dN 4) dNotIn)) (tb (b2 (b2 (dN 8) (dN 7) dSub) (dN 9) dGt))) (sRet (dTup (aCons (dK (.str "dearer")) (aCons (dN 5) a0)))) sNx))
    (sRet (dK .non)))))))))
def F_worst_fault : List D → Option S := fnS 3 10 d_worst_fault
def d_offer : VL.Env → Option Out :=
  (sq (sSet 2 (fL (dComp [3] (iSq (dN 0)) (gN 3) cY (b2 (cF (aCons (dN 3) (aCons (dN 1) a0)) F_worst) (dK (.int 0)) dIx))))
    (sRet (dTup (aCons (b2 (dN 2) (cB (aCons (dN 2) a0) dMinA) dIndex) (aCons (cB (aCons (dN 2) a0) dMinA) a0)))))
def F_offer : List D → Option S := fnS 2 4 d_offer
def d_regret : VL.Env → Option Out :=
  (sq (sSet 2 (fL (dComp [3] (iSq (dN 0)) (gN 3) cY (b2 (cF (aCons (dN 3) (aCons (dN 1) a0)) F_worst) (dK (.int 0)) dIx))))
    (sRet (fL (dComp [4] (iSq (dN 2)) (gN 4) cY (b2 (dN 4) (cB (aCons (dN 2) a0) dMinA) dSub)))))
def F_regret : List D → Option S := fnS 2 5 d_regret
def d_levels : VL.Env → Option Out :=
  (sq (sSet 1 (cB (aCons (fL (dComp [2] (iSq (dN 0)) (gN 2) cY (cB (aCons (dN 2) a0) dLen))) a0) dMaxA))
    (sq (sSetO 3 (oL (dLst a0)))
    (sq (sFor (iR1 (aCons (b2 (dN 1) (dK (.int 1)) dAdd) a0)) (gN 4) (sq (sSet 5 (b2 (cF (aCons (dN 0) (aCons (dN 4) a0)) F_offer) (dK (.int 0)) dIx))
    (sIf (tOr2 (tNot1 (dTr (dW 3))) (tb (b2 (b2 (b2 (dW 3) (dNeg1 (dK (.int 1))) dIx) (dK (.int 1)) dIx) (dN 5) dNe))) (sApp 3 (oFz (dTup (aCons (dN 4) (aCons (dN 5) a0))))) sNx)))
    (sRetN 3))))
def F_levels : List D → Option S := fnS 1 6 d_levels
def d_scrap_of : VL.Env → Option Out :=
  (sRet (dTup (aCons (cB (aCons (dN 0) a0) dLen) (aCons (b2 (b2 (dN 1) (dN 2) dMul) (cB (aCons (dN 0) a0) dLen) dSub) a0))))
def F_scrap_of : List D → Option S := fnS 3 3 d_scrap_of
def d_shared : VL.Env → Option Out :=
  (sq (sSet 2 (cB (aCons (dN 1) a0) dSum))
    (sq (sIf (tb (b2 (dN 2) (dK (.int 0)) dEq)) (sRet (fL (dComp [3] (iSq (dN 1)) (gN 3) cY (dK (.int 0))))) sNx)
    (sq (sSetO 4 (oL (dComp [5] (iSq (dN 1)) (gN 5) cY (b2 (b2 (dN 0) (dN 5) dMul) (dN 2) dDiv))))
    (sq (sSet 6 (fL (cL (aCons (fL (dComp [7, 5] (iEn (dN 1)) (gT (gsC (gN 7) (gsC (gN 5) gs0))) cY (dTup (aCons (b2 (b2 (getI 4 (dN 7)) (dN 2) dMul) (b2 (dN 0) (dN 5) dMul) dSub) (aCons (dN 7) a0))))) a0) dSorted)))
    (sq (sFor (iSq (fL (dCut (dN 6) sl0 (sl1 (b2 (dN 0) (cB (aCons (dW 4) a0) dSum) dSub))))) (gT (gsC (gN 8) (gsC (gN 7) gs0))) (sPutL 4 (dN 7) (b2 (getI 4 (dN 7)) (dK (.int 1)) dAdd)))
    (sRetN 4))))))
def F_shared : List D → Option S := fnS 2 9 d_shared
def d_shared_fault : VL.Env → Option Out :=
  (sq (sSet 3 (cB (aCons (dN 1) a0) dSum))
    (sq (sIf (tOr2 (tb (b2 (cB (aCons (dN 2) a0) dLen) (cB (aCons (dN 1) a0) dLen) dNe)) (tb (b2 (cB (aCons (b2 (dN 2) (fL (dLst (aCons (dK (.int 0)) a0))) dAdd) a0) dMinA) (dK (.int 0)) dLt))) (sRet (dTup (aCons (dK (.str "form")) a0))) sNx)
    (sq (sIf (tb (b2 (dN 3) (dK (.int 0)) dEq)) (sRet (vIf (tb (b2 (cB (aCons (dN 2) a0) dSum) (dK (.int 0)) dEq)) (dK .non) (dTup (aCons (dK (.str "sum")) a0)))) sNx)
    (sq (sIf (tb (b2 (cB (aCons (dN 2) a0) dSum) (dN 0) dNe)) (sRet (dTup (aCons (dK (.str "sum")) a0))) sNx)
    (sq (sSet 4 (fL (dComp [5, 6] (iEn (dN 1)) (gT (gsC (gN 5) (gsC (gN 6) gs0))) cY (b2 (b2 (b2 (dN 2) (dN 5) dIx) (dN 3) dMul) (b2 (dN 0) (dN 6) dMul) dSub))))
    (sq (sFor (iR1 (aCons (cB (aCons (dN 2) a0) dLen) a0)) (gN 7) (sFor (iR1 (aCons (cB (aCons (dN 2) a0) dLen) a0)) (gN 8) (sIf (tOr2 (tb (b2 (b2 (b2 (dN 4) (dN 7) dIx) (b2 (dN 4) (dN 8) dIx) dSub) (dN 3) dGt)) (tAnd2 (tb (b2 (b2 (b2 (dN 4) (dN 7) dIx) (b2 (dN 4) (dN 8) dIx) dSub) (dN 3) dEq)) (tb (b2 (dN 7) (dN 8) dGt)))) (sRet (dTup (aCons (dK (.str "parts")) (aCons (dN 7) (aCons (dN 8) a0))))) sNx)))
    (sRet (dK .non))))))))
def F_shared_fault : List D → Option S := fnS 3 9 d_shared_fault
def d__law_offer : VL.Env → Option Out :=
  (sq (sSetO 1 (oL (dLst a0)))
    (sq (sForM (mB (maC (mI 0 (maC (pur (dK (.int 8))) mA0) takeS) mA0) rng1) (gN 2) (sq (sSetM 3 (mI 0 (maC (pur (dK (.int 30))) mA0) takeS))
    (sAppM 1 (mTup (maC (pur (dN 3)) (maC (m2 (pur (dN 3)) (m2 (mLst (maC (pur (dK (.int 0))) (maC (mI 0 (maC (pur (dK (.int 20))) mA0) takeS) mA0))) (mI 0 (maC (pur (dK (.int 2))) mA0) takeS) dIx) dAdd) mA0))))))
    (dFz 1 (sRet (dN 1)))))
def I__law_offer : Addr → S → List D → Option (D × S) := fnI 1 4 d__law_offer
def d__law_worst : VL.Env → Option Out :=
  (sq (sSet 2 (fL (dRev (fL (cL (aCons (fL (dComp [3, 4] (iSq (dN 0)) (gT (gsC (gN 3) (gsC (gN 4) gs0))) cY (b2 (dN 4) (dN 3) dSub))) a0) dSorted)))))
    (sRet (b2 (cB (aCons (fL (dComp [3, 4] (iSq (dN 0)) (gT (gsC (gN 3) (gsC (gN 4) gs0))) cY (dN 3))) a0) dSum) (cB (aCons (fL (dCut (dN 2) sl0 (sl1 (dN 1)))) a0) dSum) dAdd)))
def F__law_worst : List D → Option S := fnS 2 5 d__law_worst
def d__law_fault : VL.Env → Option Out :=
  (sq (sTg (gT (gsC (gN 3) (gsC (gN 4) gs0))) (dN 2))
    (sq (sIf (tOr2 (tb (b2 (dN 4) (fL (dSetSo (dN 4))) dNe)) (tOr2 (tb (b2 (cB (aCons (fL (dComp [5] (iSq (dN 4)) (gN 5) (tNot1 (tb (vChain (dK (.int 0)) (dN 5) (cB (aCons (dN 0) a0) dLen) dLe dLt))) (dN 5))) a0) dLen) (dK (.int 0)) dGt)) (tb (b2 (cB (aCons (dN 4) a0) dLen) (dN 1) dGt)))) (sRet (dTup (aCons (dK (.str "chosen")) a0))) sNx)
    (sq (sIf (tb (b2 (b2 (cB (aCons (fL (dComp [6, 7] (iSq (dN 0)) (gT (gsC (gN 6) (gsC (gN 7) gs0))) cY (dN 6))) a0) dSum) (cB (aCons (fL (dComp [5] (iSq (dN 4)) (gN 5) cY (b2 (b2 (b2 (dN 0) (dN 5) dIx) (dK (.int 1)) dIx) (b2 (b2 (dN 0) (dN 5) dIx) (dK (.int 0)) dIx) dSub))) a0) dSum) dAdd) (dN 3) dNe)) (sRet (dTup (aCons (dK (.str "cost")) a0))) sNx)
    (sq (sIf (tb (b2 (dN 1) (dK (.int 0)) dEq)) (sRet (dK .non)) sNx)
    (sq (sSet 8 (vIf (tb (b2 (cB (aCons (dN 4) a0) dLen) (dN 1) dEq)) (cB (aCons (fL (dComp [5] (iSq (dN 4)) (gN 5) cY (b2 (b2 (b2 (dN 0) (dN 5) dIx) (dK (.int 1)) dIx) (b2 (b2 (dN 0) (dN 5) dIx) (dK (.int 0)) dIx) dSub))) a0) dMinA) (dK (.int 0))))
    (sq (sFor (iR1 (aCons (cB (aCons (dN 0) a0) dLen) a0)) (gN 5) (sIf (tAnd2 (tb (b2 (dN 5) (dN 4) dNotIn)) (tb (b2 (b2 (b2 (b2 (dN 0) (dN 5) dIx) (dK (.int 1)) dIx) (b2 (b2 (dN 0) (dN 5) dIx) (dK (.int 0)) dIx) dSub) (dN 8) dGt))) (sRet (dTup (aCons (dK (.str "dearer")) (aCons (dN 5) a0)))) sNx))
    (sRet (dK .non))))))))
def F__law_fault : List D → Option S := fnS 3 9 d__law_fault
def d__law_shared : VL.Env → Option Out :=
  (sq (sSet 2 (cB (aCons (dN 1) a0) dSum))
    (sq (sIf (tb (b2 (dN 2) (dK (.int 0)) dEq)) (sRet (fL (dComp [3] (iSq (dN 1)) (gN 3) cY (dK (.int 0))))) sNx)
    (sq (sSetO 4 (oL (dComp [3] (iSq (dN 1)) (gN 3) cY (b2 (b2 (dN 0) (dN 3) dMul) (dN 2) dDiv))))
    (sq (sWh (fun _ => 1000) (tb (b2 (cB (aCons (dW 4) a0) dSum) (dN 0) dLt)) (sq (sSet 5 (fL (dComp [6] (iR1 (aCons (cB (aCons (dN 1) a0) dLen) a0)) (gN 6) cY (dTup (aCons (b2 (b2 (getI 4 (dN 6)) (dN 2) dMul) (b2 (dN 0) (b2 (dN 1) (dN 6) dIx) dMul) dSub) (aCons (dN 6) a0))))))
    (sPutL 4 (b2 (cB (aCons (dN 5) a0) dMinA) (dK (.int 1)) dIx) (b2 (getI 4 (b2 (cB (aCons (dN 5) a0) dMinA) (dK (.int 1)) dIx)) (dK (.int 1)) dAdd))))
    (sRetN 4)))))
def F__law_shared : List D → Option S := fnS 2 7 d__law_shared
def d__law_shared_fault : VL.Env → Option Out :=
  (sq (sSet 3 (cB (aCons (dN 1) a0) dSum))
    (sq (sIf (tOr2 (tb (b2 (cB (aCons (dN 2) a0) dLen) (cB (aCons (dN 1) a0) dLen) dNe)) (tb (b2 (cB (aCons (fL (dComp [4] (iSq (dN 2)) (gN 4) (tb (b2 (dN 4) (dK (.int 0)) dLt)) (dN 4))) a0) dLen) (dK (.int 0)) dGt))) (sRet (dTup (aCons (dK (.str "form")) a0))) sNx)
    (sq (sIf (tb (b2 (dN 3) (dK (.int 0)) dEq)) (sRet (vIf (tb (b2 (cB (aCons (dN 2) a0) dSum) (dK (.int 0)) dEq)) (dK .non) (dTup (aCons (dK (.str "sum")) a0)))) sNx)
    (sq (sIf (tb (b2 (cB (aCons (dN 2) a0) dSum) (dN 0) dNe)) (sRet (dTup (aCons (dK (.str "sum")) a0))) sNx)
    (sq (sFor (iR1 (aCons (cB (aCons (dN 2) a0) dLen) a0)) (gN 5) (sFor (iR1 (aCons (cB (aCons (dN 2) a0) dLen) a0)) (gN 6) (sq (sSet 7 (b2 (b2 (b2 (b2 (dN 2) (dN 5) dIx) (b2 (dN 2) (dN 6) dIx) dSub) (dN 3) dMul) (b2 (dN 0) (b2 (b2 (dN 1) (dN 5) dIx) (b2 (dN 1) (dN 6) dIx) dSub) dMul) dSub))
    (sIf (tOr2 (tb (b2 (dN 7) (dN 3) dGt)) (tAnd2 (tb (b2 (dN 7) (dN 3) dEq)) (tb (b2 (dN 5) (dN 6) dGt)))) (sRet (dTup (aCons (dK (.str "parts")) (aCons (dN 5) (aCons (dN 6) a0))))) sNx))))
    (sRet (dK .non)))))))
def F__law_shared_fault : List D → Option S := fnS 3 8 d__law_shared_fault
def d__law_shares_right : VL.Env → Option Out :=
  (sq (sSetM 1 (m2 (mLst (maC (mI 0 (maC (pur (dK (.int 9))) mA0) takeS) (maC (mI 0 (maC (pur (b2 (dK (.int 10)) (dK (.int 6)) dPow)) mA0) takeS) mA0))) (mI 0 (maC (pur (dK (.int 2))) mA0) takeS) dIx))
    (sq (sSetM 2 (mComp [3] (mB (maC (mI 0 (maC (pur (dK (.int 7))) mA0) takeS) mA0) rng1) (gN 3) mY (mI 0 (maC (m2 (pur (fL (dLst (aCons (dK (.int 2)) (aCons (dK (.int 30)) a0))))) (mI 0 (maC (pur (dK (.int 2))) mA0) takeS) dIx) mA0) takeS)))
    (sq (sSet 4 (cF (aCons (dN 1) (aCons (dN 2) a0)) F_shared))
    (sq (sIf (tOr2 (tb (b2 (dN 4) (cF (aCons (dN 1) (aCons (dN 2) a0)) F__law_shared) dNe)) (tb (b2 (cF (aCons (dN 1) (aCons (dN 2) (aCons (dN 4) a0))) F_shared_fault) (dK .non) dIsNot))) (sRet (dK (.bl false))) sNx)
    (sq (sFor (iR1 (aCons (dK (.int 4)) a0)) (gN 3) (sq (sSetO 5 (oL (cL (aCons (dN 4) a0) dList)))
    (sq (sIf (tb (b2 (cB (aCons (dW 5) a0) dLen) (dK (.int 0)) dGt)) (sq (sParM 6 7 (maC (mI 0 (maC (pur (cB (aCons (dW 5) a0) dLen)) mA0) takeS) (maC (mI 0 (maC (pur (cB (aCons (dW 5) a0) dLen)) mA0) takeS) mA0)))
    (sq (sPutL 5 (dN 6) (b2 (getI 5 (dN 6)) (dK (.int 1)) dAdd))
    (sq (sPutLM 5 (dN 7) (m2 (pur (getI 5 (dN 7))) (m2 (pur (fL (dLst (aCons (dK (.int 1)) (aCons (dK (.int 1)) (aCons (dK (.int 2)) a0)))))) (mI 0 (maC (pur (dK (.int 3))) mA0) takeS) dIx) dSub))
    (dFz 5 (sSetM 5 (mIf (mtb (m2 (mI 0 (maC (pur (dK (.int 6))) mA0) takeS) (pur (dK (.int 0))) dGt)) (pur (dN 5)) (pur (fL (dCut (dN 5) (sl1 (dK (.int 1))) sl0))))))))) (dFz 5 sNx))
    (dFz 5 (sIf (tb (b2 (cF (aCons (dN 1) (aCons (dN 2) (aCons (dN 5) a0))) F_shared_fault) (cF (aCons (dN 1) (aCons (dN 2) (aCons (dN 5) a0))) F__law_shared_fault) dNe)) (sRet (dK (.bl false))) sNx)))))
    (sRet (dK (.bl true))))))))
def I__law_shares_right : Addr → S → List D → Option (D × S) := fnI 1 8 d__law_shares_right
def d_law : VL.Env → Option Out :=
  (sq (sSetM 2 (mI 1 mA0 I__law_offer))
    (sq (sSetM 3 (mI 1 (maC (pur (dK (.int 5))) mA0) takeS))
    (sq (sSet 4 (fL (cL (aCons (dN 2) a0) dList)))
    (sq (sSet 5 (cF (aCons (dN 2) (aCons (dN 3) a0)) F_worst))
    (sq (sSet 6 (fL (dLst (aCons (fL (dLst a0)) a0))))
    (sq (sFor (iR1 (aCons (cB (aCons (dN 2) a0) dLen) a0)) (gN 7) (sSet 6 (b2 (dN 6) (fL (dComp [8] (iSq (dN 6)) (gN 8) (tb (b2 (cB (aCons (dN 8) a0) dLen) (dN 3) dLt)) (b2 (dN 8) (fL (dLst (aCons (dN 7) a0))) dAdd))) dAdd)))
    (sq (sSet 9 (fL (dComp [8] (iSq (dN 6)) (gN 8) cY (b2 (cB (aCons (fL (dComp [10, 11] (iSq (dN 2)) (gT (gsC (gN 10) (gsC (gN 11) gs0))) cY (dN 10))) a0) dSum) (cB (aCons (fL (dComp [7] (iSq (dN 8)) (gN 7) cY (b2 (b2 (b2 (dN 2) (dN 7) dIx) (dK (.int 1)) dIx) (b2 (b2 (dN 2) (dN 7) dIx) (dK (.int 0)) dIx) dSub))) a0) dSum) dAdd))))
    (sq (sIf (tOr2 (tNot1 (dTr (dIsi "tuple" (dN 5)))) (tOr2 (tb (b2 (b2 (dN 5) (dK (.int 0)) dIx) (cB (aCons (dN 9) a0) dMaxA) dNe)) (tOr2 (tb (b2 (cF (aCons (dN 2) (aCons (dN 3) (aCons (dN 5) a0))) F__law_fault) (dK .non) dIsNot)) (tb (b2 (cF (aCons (dN 2) (aCons (dN 3) (aCons (dN 5) a0))) F_worst_fault) (dK .non) dIsNot))))) (sRet (dK (.bl false))) sNx)
    (sq (sFor (iR1 (aCons (cB (aCons (dN 6) a0) dLen) a0)) (gN 7) (sq (sIf (tb (b2 (cF (aCons (dN 2) (aCons (dN 3) (aCons (dTup (aCons (b2 (dN 9) (dN 7) dIx) (aCons (b2 (dN 6) (dN 7) dIx) a0))) a0))) F_worst_fault) (cF (aCons (dN 2) (aCons (dN 3) (aCons (dTup (aCons (b2 (dN 9) (dN 7) dIx) (aCons (b2 (dN 6) (dN 7) dIx) a0))) a0))) F__law_fault) dNe)) (sRet (dK (.bl false))) sNx)
    (sIf (tb (b2 (b2 (b2 (dN 9) (dN 7) dIx) (b2 (dN 5) (dK (.int 0)) dIx) dEq) (b2 (cF (aCons (dN 2) (aCons (dN 3) (aCons (dTup (aCons (b2 (dN 9) (dN 7) dIx) (aCons (b2 (dN 6) (dN 7) dIx) a0))) a0))) F_worst_fault) (dK .non) dIs) dNe)) (sRet (dK (.bl false))) sNx)))
    (sq (sFor (iSq (fL (dLst (aCons (dTup (aCons (b2 (b2 (dN 5) (dK (.int 0)) dIx) (dK (.int 1)) dAdd) (aCons (b2 (dN 5) (dK (.int 1)) dIx) a0))) (aCons (dTup (aCons (b2 (dN 5) (dK (.int 0)) dIx) (aCons (fL (dRev (b2 (dN 5) (dK (.int 1)) dIx))) a0))) (aCons (dTup (aCons (b2 (dN 5) (dK (.int 0)) dIx) (aCons (b2 (b2 (dN 5) (dK (.int 1)) dIx) (fL (dLst (aCons (cB (aCons (dN 2) a0) dLen) a0))) dAdd) a0))) (aCons (dTup (aCons (b2 (dN 5) (dK (.int 0)) dIx) (aCons (fL (dLst (aCons (b2 (dK (.int 0)) (dK (.int 1)) dSub) a0))) a0))) a0))))))) (gN 12) (sIf (tb (b2 (cF (aCons (dN 2) (aCons (dN 3) (aCons (dN 12) a0))) F_worst_fault) (cF (aCons (dN 2) (aCons (dN 3) (aCons (dN 12) a0))) F__law_fault) dNe)) (sRet (dK (.bl false))) sNx))
    (sq (sSetM 13 (m2 (pur (fL (dLst (aCons (dN 2) a0)))) (mComp [7] (mB (maC (mI 1 (maC (pur (dK (.int 4))) mA0) takeS) mA0) rng1) (gN 7) mY (mI 1 mA0 I__law_offer)) dAdd))
    (sq (sSet 9 (fL (dComp [14] (iSq (dN 13)) (gN 14) cY (cF (aCons (dN 14) (aCons (dN 3) a0)) F__law_worst))))
    (sq (sIf (tOr2 (tb (b2 (cF (aCons (dN 13) (aCons (dN 3) a0)) F_offer) (dTup (aCons (b2 (dN 9) (cB (aCons (dN 9) a0) dMinA) dIndex) (aCons (cB (aCons (dN 9) a0) dMinA) a0))) dNe)) (tb (b2 (cF (aCons (dN 13) (aCons (dN 3) a0)) F_regret) (fL (dComp [15] (iSq (dN 9)) (gN 15) cY (b2 (dN 15) (cB (aCons (dN 9) a0) dMinA) dSub))) dNe))) (sRet (dK (.bl false))) sNx)
    (sq (sSetO 16 (oL (dLst a0)))
    (sq (sFor (iR1 (aCons (b2 (cB (aCons (fL (dComp [14] (iSq (dN 13)) (gN 14) cY (cB (aCons (dN 14) a0) dLen))) a0) dMaxA) (dK (.int 1)) dAdd) a0)) (gN 17) (sq (sSet 9 (fL (dComp [14] (iSq (dN 13)) (gN 14) cY (cF (aCons (dN 14) (aCons (dN 17) a0)) F__law_worst))))
    (sq (sSet 18 (b2 (dN 9) (cB (aCons (dN 9) a0) dMinA) dIndex))
    (sIf (tOr2 (tb (b2 (cB (aCons (dW 16) a0) dLen) (dK (.int 0)) dEq)) (tb (b2 (b2 (b2 (dW 16) (dNeg1 (dK (.int 1))) dIx) (dK (.int 1)) dIx) (dN 18) dNe))) (sApp 16 (oFz (dTup (aCons (dN 17) (aCons (dN 18) a0))))) sNx))))
    (sq (sIf (tb (b2 (cF (aCons (fL (dLst (aCons (dTup (aCons (dK (.int 0)) (aCons (dK (.int 0)) a0))) (aCons (dTup (aCons (dK (.int 0)) (aCons (dK (.int 1)) a0))) a0)))) (aCons (dK (.int 3)) (aCons (dK (.int 4)) a0))) F_scrap_of) (dTup (aCons (dK (.int 2)) (aCons (dK (.int 10)) a0))) dNe)) (sRet (dK (.bl false))) sNx)
    (sRetM (mAnd2 (pur (b2 (cF (aCons (dN 13) a0) F_levels) (dW 16) dEq)) (mAnd2 (mI 1 mA0 I__law_shares_right) (pur (b2 (dN 2) (dN 4) dEq)))))))))))))))))))))
/-- what the top has written -/
structure TX (K : PySem.W.Frag) (mg : Str → Option Value) (fa : Nat → Addr) (fda : Nat → FuncData) : Prop where
  b_enumerate : mg "enumerate" = none
  b_sorted : mg "sorted" = none
  b_sum : mg "sum" = none
  b_set : mg "set" = none
  b_len : mg "len" = none
  b_all : mg "all" = none
  b_min : mg "min" = none
  b_max : mg "max" = none
  b_range : mg "range" = none
  b_list : mg "list" = none
  b_isinstance : mg "isinstance" = none
  b_tuple : mg "tuple" = none
  b_abs : mg "abs" = none
  b_int : mg "int" = none
  d_worst : Df K mg "worst" s_worst ["rows", "many"] (fa 0) (fda 0)
  d_worst_fault : Df K mg "worst_fault" s_worst_fault ["rows", "many", "told"] (fa 1) (fda 1)
  d_offer : Df K mg "offer" s_offer ["offers", "many"] (fa 2) (fda 2)
  d_regret : Df K mg "regret" s_regret ["offers", "many"] (fa 3) (fda 3)
  d_levels : Df K mg "levels" s_levels ["offers"] (fa 4) (fda 4)
  d_scrap_of : Df K mg "scrap_of" s_scrap_of ["cells", "width", "height"] (fa 5) (fda 5)
  d_shared : Df K mg "shared" s_shared ["cents", "weights"] (fa 6) (fda 6)
  d_shared_fault : Df K mg "shared_fault" s_shared_fault ["cents", "weights", "parts"] (fa 7) (fda 7)
  d__law_state : Df K mg "_law_state" s__law_state ["script"] (fa 8) (fda 8)
  d__law_take : Df K mg "_law_take" s__law_take ["state", "most"] (fa 9) (fda 9)
  d__law_offer : Df K mg "_law_offer" s__law_offer ["state"] (fa 10) (fda 10)
  d__law_worst : Df K mg "_law_worst" s__law_worst ["rows", "many"] (fa 11) (fda 11)
  d__law_fault : Df K mg "_law_fault" s__law_fault ["rows", "many", "told"] (fa 12) (fda 12)
  d__law_shared : Df K mg "_law_shared" s__law_shared ["cents", "weights"] (fa 13) (fda 13)
  d__law_shared_fault : Df K mg "_law_shared_fault" s__law_shared_fault ["cents", "weights", "parts"] (fa 14) (fda 14)
  d__law_shares_right : Df K mg "_law_shares_right" s__law_shares_right ["state"] (fa 15) (fda 15)
  d_law : Df K mg "law" s_law ["script"] (fa 16) (fda 16)

end Law
set_option Elab.async false
set_option linter.all false
set_option maxRecDepth 100000
set_option maxHeartbeats 4000000
namespace Law
open PySem PyProof.Rows L2 VL TL
open Ty (en)
def T_worst (rows : (List (Int × Int))) (many : Int) : Option (Int × (List Int)) := ansT (
  ((sortO (List.map (fun (x1 : (Int × (Int × Int))) => ((x1.2.1 - x1.2.2), x1.1)) (enumT rows))).bind fun v2 => some v2).bind fun gains_4 => ((sortO (List.map (fun (x5 : (Int × Int)) => x5.2) (List.filter (fun (x5 : (Int × Int)) => (decide (x5.1 < (0 : Int)))) (VL.cutD gains_4 none (some many))))).bind fun v6 => some v6).bind fun chosen_8 => (mapT (fun (x10 : Int) => (atI rows x10).bind fun v11 => (atI rows x10).bind fun v13 => some (v11.2 - v13.1)) chosen_8).bind fun v15 => some (.rt ((((List.map (fun (x9 : (Int × Int)) => x9.1) rows).sum) + v15.sum), chosen_8)))
theorem r_worst (rows : (List (Int × Int))) (many : Int) : ∀ r, T_worst rows many = some r → ∃ s, F_worst [en rows, en many] = some s ∧ frS s = some (en r) := by
  refine fn_f (N := fun _ _ => True) (B := fun _ _ => True) rfl ?_
  exact (bl_ss (ss_set 2 (g_bind (elo_cL (ea_cons (ev_fL (el_map (gg := fun (x1 : (Int × (Int × Int))) => ((x1.2.1 - x1.2.2), x1.1)) (ei_en (ev_n 0)) (fun (x1 : (Int × (Int × Int))) => (tg_2 (tg_n 3) (tg_2 (tg_n 4) (tg_n 5)))) (fun (x1 : (Int × (Int × Int))) => (ev_tup (a := (((x1.2.1 - x1.2.2), x1.1) : (Int × Int))) (ea_cons (ev_2 (ev_n 4) (ev_n 5) (op_sub x1.2.1 x1.2.2)) (ea_cons (ev_n 3) ea_nil)))))) ea_nil) (bi_sort (List.map (fun (x1 : (Int × (Int × Int))) => ((x1.2.1 - x1.2.2), x1.1)) (enumT rows)))) fun v2 h3 => (GJ.o (ev_fL h3)))) (fun gains_4 => (bl_ss (ss_set 6 (g_bind (elo_cL (ea_cons (ev_fL (el_comp (cc := fun (x5 : (Int × Int)) => (decide (x5.1 < (0 : Int)))) (gg := fun (x5 : (Int × Int)) => x5.2) (ei_seq (ev_fL (el_cut (ev_n 2) es_0 (es_1 (ev_n 1))))) (fun (x5 : (Int × Int)) => (tg_2 (tg_n 7) (tg_n 3))) (fun (x5 : (Int × Int)) => (eb_tb (ev_2 (ev_n 7) (ev_k (a := (0 : Int))) (op_lt x5.1 (0 : Int))))) (fun (x5 : (Int × Int)) => (ev_n 3)))) ea_nil) (bi_sort (List.map (fun (x5 : (Int × Int)) => x5.2) (List.filter (fun (x5 : (Int × Int)) => (decide (x5.1 < (0 : Int)))) (VL.cutD gains_4 none (some many)))))) fun v6 h7 => (GJ.o (ev_fL h7)))) (fun chosen_8 => (bl_bind (elo_map (gg := fun (x10 : Int) => (atI rows x10).bind fun v11 => (atI rows x10).bind fun v13 => some (v11.2 - v13.1)) (ei_seq (ev_n 6)) (fun (x10 : Int) => (tg_n 3)) (fun (x10 : Int) => (g_bind (eo_2 (ev_n 0) (ev_n 3) (op_ix rows x10)) fun v11 h12 => (g_bind (eo_2 (ev_n 0) (ev_n 3) (op_ix rows x10)) fun v13 h14 => (GJ.o (ev_2 (ev_2 h12 (ev_k (a := (1 : Int))) (op_21 v11)) (ev_2 h14 (ev_k (a := (0 : Int))) (op_20 v13)) (op_sub v11.2 v13.1))))))) fun v15 h16 => (bl_ret (ev_tup (a := (((((List.map (fun (x9 : (Int × Int)) => x9.1) rows).sum) + v15.sum), chosen_8) : (Int × (List Int)))) (ea_cons (ev_2 (ev_cB (ea_cons (ev_fL (el_map (gg := fun (x9 : (Int × Int)) => x9.1) (ei_seq (ev_n 0)) (fun (x9 : (Int × Int)) => (tg_2 (tg_n 4) (tg_n 5))) (fun (x9 : (Int × Int)) => (ev_n 4)))) ea_nil) (bi_sum (List.map (fun (x9 : (Int × Int)) => x9.1) rows))) (ev_cB (ea_cons (ev_fL h16) ea_nil) (bi_sum v15)) (op_add ((List.map (fun (x9 : (Int × Int)) => x9.1) rows).sum) v15.sum)) (ea_cons (ev_n 6) ea_nil))) rf))))))
def T_worst_fault (rows : (List (Int × Int))) (many : Int) (told : (Int × (List Int))) : Option D := ansT (
  (some told).bind fun y_2 => (setT y_2.2).bind fun v3 => if ((!decide (y_2.2 = v3)) || ((!((List.map (fun (x5 : Int) => ((decide ((0 : Int) ≤ x5)) && (decide (x5 < (rows.length : Int))))) y_2.2).all id)) || (decide (many < (y_2.2.length : Int))))) = true then some (.rt (.tup [en (("chosen" : Str) : Str)] : D)) else ((mapT (fun (x7 : Int) => (atI rows x7).bind fun v8 => (atI rows x7).bind fun v10 => some (v8.2 - v10.1)) y_2.2).bind fun v12 => some (((List.map (fun (x6 : (Int × Int)) => x6.1) rows).sum) + v12.sum)).bind fun total_14 => if (!decide (total_14 = y_2.1)) = true then some (.rt (.tup [en (("cost" : Str) : Str)] : D)) else if (decide (many = (0 : Int))) = true then some (.rt (en (() : Unit) : D)) else (if (decide ((y_2.2.length : Int) = many)) = true then (mapT (fun (x15 : Int) => (atI rows x15).bind fun v16 => (atI rows x15).bind fun v18 => some (v16.2 - v18.1)) y_2.2).bind fun v20 => minDfT v20 (0 : Int) else some (0 : Int)).bind fun least_26 => sqT (loopT (fun (x28 : (Int × (Int × Int))) (s27 : Unit) => if ((!decide (x28.1 ∈ y_2.2)) && (decide (least_26 < (x28.2.2 - x28.2.1)))) = true then some (.rt (.tup [en (("dearer" : Str) : Str), en (x28.1 : Int)] : D)) else some (.nx ())) (enumT rows) ()) fun t29 => some (.rt (en (() : Unit) : D)))
theorem r_worst_fault (rows : (List (Int × Int))) (many : Int) (told : (Int × (List Int))) : ∀ r, T_worst_fault rows many told = some r → ∃ s, F_worst_fault [en rows, en many, en told] = some s ∧ frS s = some (en r) := by
  refine fn_f (N := fun _ _ => True) (B := fun _ _ => True) rfl ?_
  exact (bl_ss (ss_tg (GJ.o (ev_n 2)) (fun y1 => (tg_2 (tg_n 3) (tg_n 4)))) (fun y_2 => (bl_bind (elo_set (ev_n 4)) fun v3 h4 => (bl_ifA (eb_or (eb_tb (ev_2 (ev_n 4) (ev_fL h4) (op_ne (α := (List Int)) y_2.2 v3))) (eb_or (eb_not (eb_tr (a := (((List.map (fun (x5 : Int) => ((decide ((0 : Int) ≤ x5)) && (decide (x5 < (rows.length : Int))))) y_2.2).all id) : Bool)) (ev_cB (ea_cons (ev_fL (el_map (gg := fun (x5 : Int) => ((decide ((0 : Int) ≤ x5)) && (decide (x5 < (rows.length : Int))))) (ei_seq (ev_n 4)) (fun (x5 : Int) => (tg_n 5)) (fun (x5 : Int) => (ev_ch (ev_k (a := (0 : Int))) (ev_n 5) (ev_cB (ea_cons (ev_n 0) ea_nil) (bi_len rows)) (op_le (0 : Int) x5) (op_lt x5 (rows.length : Int)))))) ea_nil) (bi_all (List.map (fun (x5 : Int) => ((decide ((0 : Int) ≤ x5)) && (decide (x5 < (rows.length : Int))))) y_2.2))))) (eb_tb (ev_2 (ev_cB (ea_cons (ev_n 4) ea_nil) (bi_len y_2.2)) (ev_n 1) (op_gt (y_2.2.length : Int) many))))) (bl_ret (ev_tup (a := (.tup [en (("chosen" : Str) : Str)] : D)) (ea_cons (ev_k (a := ("chosen" : Str))) ea_nil)) rf) (bl_skip (bl_ss (ss_set 6 (g_bind (elo_map (gg := fun (x7 : Int) => (atI rows x7).bind fun v8 => (atI rows x7).bind fun v10 => some (v8.2 - v10.1)) (ei_seq (ev_n 4)) (fun (x7 : Int) => (tg_n 5)) (fun (x7 : Int) => (g_bind (eo_2 (ev_n 0) (ev_n 5) (op_ix rows x7)) fun v8 h9 => (g_bind (eo_2 (ev_n 0) (ev_n 5) (op_ix rows x7)) fun v10 h11 => (GJ.o (ev_2 (ev_2 h9 (ev_k (a := (1 : Int))) (op_21 v8)) (ev_2 h11 (ev_k (a := (0 : Int))) (op_20 v10)) (op_sub v8.2 v10.1))))))) fun v12 h13 => (GJ.o (ev_2 (ev_cB (ea_cons (ev_fL (el_map (gg := fun (x6 : (Int × Int)) => x6.1) (ei_seq (ev_n 0)) (fun (x6 : (Int × Int)) => (tg_2 (tg_n 7) (tg_n 8))) (fun (x6 : (Int × Int)) => (ev_n 7)))) ea_nil) (bi_sum (List.map (fun (x6 : (Int × Int)) => x6.1) rows))) (ev_cB (ea_cons (ev_fL h13) ea_nil) (bi_sum v12)) (op_add ((List.map (fun (x6 : (Int × Int)) => x6.1) rows).sum) v12.sum))))) (fun total_14 => (bl_ifA (eb_tb (ev_2 (ev_n 6) (ev_n 3) (op_ne (α := Int) total_14 y_2.1))) (bl_ret (ev_tup (a := (.tup [en (("cost" : Str) : Str)] : D)) (ea_cons (ev_k (a := ("cost" : Str))) ea_nil)) rf) (bl_skip (bl_ifA (eb_tb (ev_2 (ev_n 1) (ev_k (a := (0 : Int))) (op_eq (α := Int) many (0 : Int)))) (bl_ret (ev_d (ev_k (a := ()))) rf) (bl_skip (bl_ss (ss_set 9 (eo_if (eb_tb (ev_2 (ev_cB (ea_cons (ev_n 4) ea_nil) (bi_len y_2.2)) (ev_n 1) (op_eq (α := Int) (y_2.2.length : Int) many))) (g_bind (elo_map (gg := fun (x15 : Int) => (atI rows x15).bind fun v16 => (atI rows x15).bind fun v18 => some (v16.2 - v18.1)) (ei_seq (ev_n 4)) (fun (x15 : Int) => (tg_n 5)) (fun (x15 : Int) => (g_bind (eo_2 (ev_n 0) (ev_n 5) (op_ix rows x15)) fun v16 h17 => (g_bind (eo_2 (ev_n 0) (ev_n 5) (op_ix rows x15)) fun v18 h19 => (GJ.o (ev_2 (ev_2 h17 (ev_k (a := (1 : Int))) (op_21 v16)) (ev_2 h19 (ev_k (a := (0 : Int))) (op_20 v18)) (op_sub v16.2 v18.1))))))) fun v20 h21 => (eo_2 (ev_fL h21) (ev_k (a := (0 : Int))) (op_minDf v20 (0 : Int)))) (GJ.o (ev_k (a := (0 : Int)))))) (fun least_26 => (bl_seq (ψ := fun (t29 : Unit) => [some (.fz (en (rows : (List (Int × Int))))), some (.fz (en (many : Int))), some (.fz (en (told : (Int × (List Int))))), some (.fz (en (y_2.1 : Int))), some (.fz (en (y_2.2 : (List Int)))), none, some (.fz (en (total_14 : Int))), none, none, some (.fz (en (least_26 : Int)))]) (bl_for (ψs := fun (s27 : Unit) => [some (.fz (en (rows : (List (Int × Int))))), some (.fz (en (many : Int))), some (.fz (en (told : (Int × (List Int))))), some (.fz (en (y_2.1 : Int))), some (.fz (en (y_2.2 : (List Int)))), none, some (.fz (en (total_14 : Int))), none, none, some (.fz (en (least_26 : Int)))]) (body := fun (x28 : (Int × (Int × Int))) (s27 : Unit) => if ((!decide (x28.1 ∈ y_2.2)) && (decide (least_26 < (x28.2.2 - x28.2.1)))) = true then some (.rt (.tup [en (("dearer" : Str) : Str), en (x28.1 : Int)] : D)) else some (.nx ())) (ei_en (ev_n 0)) (.s (.s (.s (.s (.s (.n (.s (.n (.n (.s .nil)))))))))) (fun x28 s27 => (tg_2 (tg_n 5) (tg_2 (tg_n 7) (tg_n 8)))) (fun x28 s27 => (bl_if (eb_and (eb_tb (ev_2 (ev_n 5) (ev_n 4) (op_nin (α := Int) x28.1 y_2.2))) (eb_tb (ev_2 (ev_2 (ev_n 8) (ev_n 7) (op_sub x28.2.2 x28.2.1)) (ev_n 9) (op_gt (x28.2.2 - x28.2.1) least_26)))) (bl_ret (ev_tup (a := (.tup [en (("dearer" : Str) : Str), en (x28.1 : Int)] : D)) (ea_cons (ev_k (a := ("dearer" : Str))) (ea_cons (ev_n 5) ea_nil))) rf) (bl_nx (nf (.s (.s (.s (.s (.s (.n (.s (.n (.n (.s .nil))))))))))))))) (fun t29 => (bl_ret (ev_d (ev_k (a := ()))) rf))))))))))))))))
def T_offer (offers : (List (List (Int × Int)))) (many : Int) : Option (Int × Int) := ansT (
  ((mapT (fun (x1 : (List (Int × Int))) => (T_worst x1 many).bind fun v2 => some v2.1) offers).bind fun v4 => some v4).bind fun costs_6 => (minT costs_6).bind fun v7 => (indexT costs_6 v7).bind fun v9 => (minT costs_6).bind fun v11 => some (.rt (v9, v11)))
theorem r_offer (offers : (List (List (Int × Int)))) (many : Int) : ∀ r, T_offer offers many = some r → ∃ s, F_offer [en offers, en many] = some s ∧ frS s = some (en r) := by
  refine fn_f (N := fun _ _ => True) (B := fun _ _ => True) rfl ?_
  exact (bl_ss (ss_set 2 (g_bind (elo_map (gg := fun (x1 : (List (Int × Int))) => (T_worst x1 many).bind fun v2 => some v2.1) (ei_seq (ev_n 0)) (fun (x1 : (List (Int × Int))) => (tg_n 3)) (fun (x1 : (List (Int × Int))) => (g_bind (eo_call (ea_cons (ev_n 3) (ea_cons (ev_n 1) ea_nil)) (r_worst x1 many)) fun v2 h3 => (GJ.o (ev_2 h3 (ev_k (a := (0 : Int))) (op_20 v2)))))) fun v4 h5 => (GJ.o (ev_fL h5)))) (fun costs_6 => (bl_bind (eo_cB (ea_cons (ev_n 2) ea_nil) (bi_min costs_6)) fun v7 h8 => (bl_bind (eo_2 (ev_n 2) h8 (op_index costs_6 v7)) fun v9 h10 => (bl_bind (eo_cB (ea_cons (ev_n 2) ea_nil) (bi_min costs_6)) fun v11 h12 => (bl_ret (ev_tup (a := ((v9, v11) : (Int × Int))) (ea_cons h10 (ea_cons h12 ea_nil))) rf))))))
def T_regret (offers : (List (List (Int × Int)))) (many : Int) : Option (List Int) := ansT (
  ((mapT (fun (x1 : (List (Int × Int))) => (T_worst x1 many).bind fun v2 => some v2.1) offers).bind fun v4 => some v4).bind fun costs_6 => (mapT (fun (x7 : Int) => (minT costs_6).bind fun v8 => some (x7 - v8)) costs_6).bind fun v10 => some (.rt v10))
theorem r_regret (offers : (List (List (Int × Int)))) (many : Int) : ∀ r, T_regret offers many = some r → ∃ s, F_regret [en offers, en many] = some s ∧ frS s = some (en r) := by
  refine fn_f (N := fun _ _ => True) (B := fun _ _ => True) rfl ?_
  exact (bl_ss (ss_set 2 (g_bind (elo_map (gg := fun (x1 : (List (Int × Int))) => (T_worst x1 many).bind fun v2 => some v2.1) (ei_seq (ev_n 0)) (fun (x1 : (List (Int × Int))) => (tg_n 3)) (fun (x1 : (List (Int × Int))) => (g_bind (eo_call (ea_cons (ev_n 3) (ea_cons (ev_n 1) ea_nil)) (r_worst x1 many)) fun v2 h3 => (GJ.o (ev_2 h3 (ev_k (a := (0 : Int))) (op_20 v2)))))) fun v4 h5 => (GJ.o (ev_fL h5)))) (fun costs_6 => (bl_bind (elo_map (gg := fun (x7 : Int) => (minT costs_6).bind fun v8 => some (x7 - v8)) (ei_seq (ev_n 2)) (fun (x7 : Int) => (tg_n 4)) (fun (x7 : Int) => (g_bind (eo_cB (ea_cons (ev_n 2) ea_nil) (bi_min costs_6)) fun v8 h9 => (GJ.o (ev_2 (ev_n 4) h9 (op_sub x7 v8)))))) fun v10 h11 => (bl_ret (ev_fL h11) rf))))
def T_levels (offers : (List (List (Int × Int)))) : Option (List (Int × Int)) := ansT (
  (maxT (List.map (fun (x1 : (List (Int × Int))) => (x1.length : Int)) offers)).bind fun longest_4 => (some ([] : List (Int × Int))).bind fun found_5 => (rngT (longest_4 + (1 : Int))).bind fun v6 => sqT (loopT (fun (x9 : Int) (s8 : (List (Int × Int))) => ((T_offer offers x9).bind fun v10 => some v10.1).bind fun best_12 => (if (!(!s8.isEmpty)) = true then some true else (atI s8 (-(1 : Int))).bind fun v13 => some (!decide (v13.2 = best_12))).bind fun v15 => if v15 = true then (apT s8 (x9, best_12)).bind fun found_17 => some (.nx found_17) else some (.nx s8)) v6 found_5) fun t18 => some (.rt t18))
theorem r_levels (offers : (List (List (Int × Int)))) : ∀ r, T_levels offers = some r → F_levels [en offers] = some (olE r) := by
  refine fn_r (N := fun _ _ => True) (B := fun _ _ => True) (Rs := (olE : (List (Int × Int)) → S)) rfl ?_
  exact (bl_ss (ss_set 1 (eo_cB (ea_cons (ev_fL (el_map (gg := fun (x1 : (List (Int × Int))) => (x1.length : Int)) (ei_seq (ev_n 0)) (fun (x1 : (List (Int × Int))) => (tg_n 2)) (fun (x1 : (List (Int × Int))) => (ev_cB (ea_cons (ev_n 2) ea_nil) (bi_len x1))))) ea_nil) (bi_max (List.map (fun (x1 : (List (Int × Int))) => (x1.length : Int)) offers)))) (fun longest_4 => (bl_ss (ss_setL 3 (GJ.o (el_lst (xs := ([] : List (Int × Int))) ea_nil))) (fun found_5 => (bl_bind (ei_r1 (ea_cons (ev_2 (ev_n 1) (ev_k (a := (1 : Int))) (op_add longest_4 (1 : Int))) ea_nil)) fun v6 h7 => (bl_seq (ψ := fun (t18 : (List (Int × Int))) => [some (.fz (en (offers : (List (List (Int × Int)))))), some (.fz (en (longest_4 : Int))), none, some (olE (t18 : (List (Int × Int)))), none, none]) (bl_for (ψs := fun (s8 : (List (Int × Int))) => [some (.fz (en (offers : (List (List (Int × Int)))))), some (.fz (en (longest_4 : Int))), none, some (olE (s8 : (List (Int × Int)))), none, none]) (body := fun (x9 : Int) (s8 : (List (Int × Int))) => ((T_offer offers x9).bind fun v10 => some v10.1).bind fun best_12 => (if (!(!s8.isEmpty)) = true then some true else (atI s8 (-(1 : Int))).bind fun v13 => some (!decide (v13.2 = best_12))).bind fun v15 => if v15 = true then (apT s8 (x9, best_12)).bind fun found_17 => some (.nx found_17) else some (.nx s8)) h7 (.s (.s (.n (.s (.n (.n .nil)))))) (fun x9 s8 => (tg_n 4)) (fun x9 s8 => (bl_ss (ss_set 5 (g_bind (eo_call (ea_cons (ev_n 0) (ea_cons (ev_n 4) ea_nil)) (r_offer offers x9)) fun v10 h11 => (GJ.o (ev_2 h11 (ev_k (a := (0 : Int))) (op_20 v10))))) (fun best_12 => (bl_bind (ebo_or (eb_not (eb_tr (a := (s8 : (List (Int × Int)))) (ev_wl 3))) (g_bind (eo_2 (ev_wl 3) (ev_neg (ev_k (a := (1 : Int)))) (op_ix s8 (-(1 : Int)))) fun v13 h14 => (GJ.o (eb_tb (ev_2 (ev_2 h14 (ev_k (a := (1 : Int))) (op_21 v13)) (ev_n 5) (op_ne (α := Int) v13.2 best_12)))))) fun v15 h16 => (bl_if h16 (bl_ssl (ss_app 3 rfl (ev_tup (a := ((x9, best_12) : (Int × Int))) (ea_cons (ev_n 4) (ea_cons (ev_n 5) ea_nil)))) (fun found_17 => (bl_nx (nf (.s (.s (.n (.s (.n (.n .nil)))))))))) (bl_nx (nf (.s (.s (.n (.s (.n (.n .nil)))))))))))))) (fun t18 => (bl_retN 3 rfl rs))))))))
def T_scrap_of (cells : (List (Int × Int))) (width : Int) (height : Int) : Option (Int × Int) := ansT (
  (mulT width height).bind fun v1 => some (.rt ((cells.length : Int), (v1 - (cells.length : Int)))))
theorem r_scrap_of (cells : (List (Int × Int))) (width : Int) (height : Int) : ∀ r, T_scrap_of cells width height = some r → ∃ s, F_scrap_of [en cells, en width, en height] = some s ∧ frS s = some (en r) := by
  refine fn_f (N := fun _ _ => True) (B := fun _ _ => True) rfl ?_
  exact (bl_bind (eo_2 (ev_n 1) (ev_n 2) (op_mul width height)) fun v1 h2 => (bl_ret (ev_tup (a := (((cells.length : Int), (v1 - (cells.length : Int))) : (Int × Int))) (ea_cons (ev_cB (ea_cons (ev_n 0) ea_nil) (bi_len cells)) (ea_cons (ev_2 h2 (ev_cB (ea_cons (ev_n 0) ea_nil) (bi_len cells)) (op_sub v1 (cells.length : Int))) ea_nil))) rf))
def T_shared (cents : Int) (weights : (List Int)) : Option (List Int) := ansT (
  (some weights.sum).bind fun whole_1 => if (decide (whole_1 = (0 : Int))) = true then some (.rt (List.map (fun (x2 : Int) => (0 : Int)) weights)) else (mapT (fun (x3 : Int) => (mulT cents x3).bind fun v4 => divT v4 whole_1) weights).bind fun parts_10 => ((mapT (fun (x11 : (Int × Int)) => (atI parts_10 x11.1).bind fun v12 => (mulT v12 whole_1).bind fun v14 => (mulT cents x11.2).bind fun v16 => some ((v14 - v16), x11.1)) (enumT weights)).bind fun v18 => (sortO v18).bind fun v20 => some v20).bind fun rests_22 => sqT (loopT (fun (x24 : (Int × Int)) (s23 : (List Int)) => ((atI s23 x24.2).bind fun v25 => putT s23 x24.2 (v25 + (1 : Int))).bind fun y_27 => some (.nx y_27)) (VL.cutD rests_22 none (some (cents - parts_10.sum))) parts_10) fun t28 => some (.rt t28))
theorem r_shared (cents : Int) (weights : (List Int)) : ∀ r, T_shared cents weights = some r → ∃ s, F_shared [en cents, en weights] = some s ∧ frS s = some (en r) := by
  refine fn_f (N := fun _ _ => True) (B := fun _ _ => True) rfl ?_
  exact (bl_ss (ss_set 2 (GJ.o (ev_cB (ea_cons (ev_n 1) ea_nil) (bi_sum weights)))) (fun whole_1 => (bl_ifA (eb_tb (ev_2 (ev_n 2) (ev_k (a := (0 : Int))) (op_eq (α := Int) whole_1 (0 : Int)))) (bl_ret (ev_fL (el_map (gg := fun (x2 : Int) => (0 : Int)) (ei_seq (ev_n 1)) (fun (x2 : Int) => (tg_n 3)) (fun (x2 : Int) => (ev_k (a := (0 : Int)))))) rf) (bl_skip (bl_ss (ss_setL 4 (elo_map (gg := fun (x3 : Int) => (mulT cents x3).bind fun v4 => divT v4 whole_1) (ei_seq (ev_n 1)) (fun (x3 : Int) => (tg_n 5)) (fun (x3 : Int) => (g_bind (eo_2 (ev_n 0) (ev_n 5) (op_mul cents x3)) fun v4 h5 => (eo_2 h5 (ev_n 2) (op_div v4 whole_1)))))) (fun parts_10 => (bl_ss (ss_set 6 (g_bind (elo_map (gg := fun (x11 : (Int × Int)) => (atI parts_10 x11.1).bind fun v12 => (mulT v12 whole_1).bind fun v14 => (mulT cents x11.2).bind fun v16 => some ((v14 - v16), x11.1)) (ei_en (ev_n 1)) (fun (x11 : (Int × Int)) => (tg_2 (tg_n 7) (tg_n 5))) (fun (x11 : (Int × Int)) => (g_bind (ev_ixO 4 rfl (ev_n 7)) fun v12 h13 => (g_bind (eo_2 h13 (ev_n 2) (op_mul v12 whole_1)) fun v14 h15 => (g_bind (eo_2 (ev_n 0) (ev_n 5) (op_mul cents x11.2)) fun v16 h17 => (GJ.o (ev_tup (a := (((v14 - v16), x11.1) : (Int × Int))) (ea_cons (ev_2 h15 h17 (op_sub v14 v16)) (ea_cons (ev_n 7) ea_nil))))))))) fun v18 h19 => (g_bind (elo_cL (ea_cons (ev_fL h19) ea_nil) (bi_sort v18)) fun v20 h21 => (GJ.o (ev_fL h21))))) (fun rests_22 => (bl_seq (ψ := fun (t28 : (List Int)) => [some (.fz (en (cents : Int))), some (.fz (en (weights : (List Int)))), some (.fz (en (whole_1 : Int))), none, some (olE (t28 : (List Int))), none, some (.fz (en (rests_22 : (List (Int × Int))))), none, none]) (bl_for (ψs := fun (s23 : (List Int)) => [some (.fz (en (cents : Int))), some (.fz (en (weights : (List Int)))), some (.fz (en (whole_1 : Int))), none, some (olE (s23 : (List Int))), none, some (.fz (en (rests_22 : (List (Int × Int))))), none, none]) (body := fun (x24 : (Int × Int)) (s23 : (List Int)) => ((atI s23 x24.2).bind fun v25 => putT s23 x24.2 (v25 + (1 : Int))).bind fun y_27 => some (.nx y_27)) (ei_seq (ev_fL (el_cut (ev_n 6) es_0 (es_1 (ev_2 (ev_n 0) (ev_cB (ea_cons (ev_wl 4) ea_nil) (bi_sum parts_10)) (op_sub cents parts_10.sum)))))) (.s (.s (.s (.n (.s (.n (.s (.n (.n .nil))))))))) (fun x24 s23 => (tg_2 (tg_n 8) (tg_n 7))) (fun x24 s23 => (bl_ssl (ss_bind (ev_ixO 4 rfl (ev_n 7)) fun v25 h26 => (ss_putL 4 rfl (ev_n 7) (ev_2 h26 (ev_k (a := (1 : Int))) (op_add v25 (1 : Int))))) (fun y_27 => (bl_nx (nf (.s (.s (.s (.n (.s (.n (.s (.n (.n .nil))))))))))))))) (fun t28 => (bl_retN 4 rfl rfl_)))))))))))
def T_shared_fault (cents : Int) (weights : (List Int)) (parts : (List Int)) : Option D := ansT (
  (some weights.sum).bind fun whole_1 => (if (!decide ((parts.length : Int) = (weights.length : Int))) = true then some true else (addL parts [(0 : Int)]).bind fun v2 => (minT v2).bind fun v4 => some (decide (v4 < (0 : Int)))).bind fun v6 => if v6 = true then some (.rt (.tup [en (("form" : Str) : Str)] : D)) else if (decide (whole_1 = (0 : Int))) = true then some (.rt (if (decide (parts.sum = (0 : Int))) = true then (en (() : Unit) : D) else (.tup [en (("sum" : Str) : Str)] : D))) else if (!decide (parts.sum = cents)) = true then some (.rt (.tup [en (("sum" : Str) : Str)] : D)) else ((mapT (fun (x8 : (Int × Int)) => (atI parts x8.1).bind fun v9 => (mulT v9 whole_1).bind fun v11 => (mulT cents x8.2).bind fun v13 => some (v11 - v13)) (enumT weights)).bind fun v15 => some v15).bind fun gaps_17 => (rngT (parts.length : Int)).bind fun v18 => sqT (loopT (fun (x21 : Int) (s20 : Unit) => (rngT (parts.length : Int)).bind fun v22 => sqT (loopT (fun (x25 : Int) (s24 : Unit) => (atI gaps_17 x21).bind fun v26 => (atI gaps_17 x25).bind fun v28 => (if (decide (whole_1 < (v26 - v28))) = true then some true else (atI gaps_17 x21).bind fun v30 => (atI gaps_17 x25).bind fun v32 => some ((decide ((v30 - v32) = whole_1)) && (decide (x25 < x21)))).bind fun v34 => if v34 = true then some (.rt (.tup [en (("parts" : Str) : Str), en (x21 : Int), en (x25 : Int)] : D)) else some (.nx ())) v22 ()) fun t36 => some (.nx ())) v18 ()) fun t37 => some (.rt (en (() : Unit) : D)))
theorem r_shared_fault (cents : Int) (weights : (List Int)) (parts : (List Int)) : ∀ r, T_shared_fault cents weights parts = some r → ∃ s, F_shared_fault [en cents, en weights, en parts] = some s ∧ frS s = some (en r) := by
  refine fn_f (N := fun _ _ => True) (B := fun _ _ => True) rfl ?_
  exact (bl_ss (ss_set 3 (GJ.o (ev_cB (ea_cons (ev_n 1) ea_nil) (bi_sum weights)))) (fun whole_1 => (bl_bind (ebo_or (eb_tb (ev_2 (ev_cB (ea_cons (ev_n 2) ea_nil) (bi_len parts)) (ev_cB (ea_cons (ev_n 1) ea_nil) (bi_len weights)) (op_ne (α := Int) (parts.length : Int) (weights.length : Int)))) (g_bind (eo_2 (ev_n 2) (ev_fL (el_lst (xs := ([(0 : Int)] : List Int)) (ea_cons (ev_k (a := (0 : Int))) ea_nil))) (op_addL parts [(0 : Int)])) fun v2 h3 => (g_bind (eo_cB (ea_cons h3 ea_nil) (bi_min v2)) fun v4 h5 => (GJ.o (eb_tb (ev_2 h5 (ev_k (a := (0 : Int))) (op_lt v4 (0 : Int)))))))) fun v6 h7 => (bl_ifA h7 (bl_ret (ev_tup (a := (.tup [en (("form" : Str) : Str)] : D)) (ea_cons (ev_k (a := ("form" : Str))) ea_nil)) rf) (bl_skip (bl_ifA (eb_tb (ev_2 (ev_n 3) (ev_k (a := (0 : Int))) (op_eq (α := Int) whole_1 (0 : Int)))) (bl_ret (ev_if (eb_tb (ev_2 (ev_cB (ea_cons (ev_n 2) ea_nil) (bi_sum parts)) (ev_k (a := (0 : Int))) (op_eq (α := Int) parts.sum (0 : Int)))) (ev_d (ev_k (a := ()))) (ev_tup (a := (.tup [en (("sum" : Str) : Str)] : D)) (ea_cons (ev_k (a := ("sum" : Str))) ea_nil))) rf) (bl_skip (bl_ifA (eb_tb (ev_2 (ev_cB (ea_cons (ev_n 2) ea_nil) (bi_sum parts)) (ev_n 0) (op_ne (α := Int) parts.sum cents))) (bl_ret (ev_tup (a := (.tup [en (("sum" : Str) : Str)] : D)) (ea_cons (ev_k (a := ("sum" : Str))) ea_nil)) rf) (bl_skip (bl_ss (ss_set 4 (g_bind (elo_map (gg := fun (x8 : (Int × Int)) => (atI parts x8.1).bind fun v9 => (mulT v9 whole_1).bind fun v11 => (mulT cents x8.2).bind fun v13 => some (v11 - v13)) (ei_en (ev_n 1)) (fun (x8 : (Int × Int)) => (tg_2 (tg_n 5) (tg_n 6))) (fun (x8 : (Int × Int)) => (g_bind (eo_2 (ev_n 2) (ev_n 5) (op_ix parts x8.1)) fun v9 h10 => (g_bind (eo_2 h10 (ev_n 3) (op_mul v9 whole_1)) fun v11 h12 => (g_bind (eo_2 (ev_n 0) (ev_n 6) (op_mul cents x8.2)) fun v13 h14 => (GJ.o (ev_2 h12 h14 (op_sub v11 v13)))))))) fun v15 h16 => (GJ.o (ev_fL h16)))) (fun gaps_17 => (bl_bind (ei_r1 (ea_cons (ev_cB (ea_cons (ev_n 2) ea_nil) (bi_len parts)) ea_nil)) fun v18 h19 => (bl_seq (ψ := fun (t37 : Unit) => [some (.fz (en (cents : Int))), some (.fz (en (weights : (List Int)))), some (.fz (en (parts : (List Int)))), some (.fz (en (whole_1 : Int))), some (.fz (en (gaps_17 : (List Int)))), none, none, none, none]) (bl_for (ψs := fun (s20 : Unit) => [some (.fz (en (cents : Int))), some (.fz (en (weights : (List Int)))), some (.fz (en (parts : (List Int)))), some (.fz (en (whole_1 : Int))), some (.fz (en (gaps_17 : (List Int)))), none, none, none, none]) (body := fun (x21 : Int) (s20 : Unit) => (rngT (parts.length : Int)).bind fun v22 => sqT (loopT (fun (x25 : Int) (s24 : Unit) => (atI gaps_17 x21).bind fun v26 => (atI gaps_17 x25).bind fun v28 => (if (decide (whole_1 < (v26 - v28))) = true then some true else (atI gaps_17 x21).bind fun v30 => (atI gaps_17 x25).bind fun v32 => some ((decide ((v30 - v32) = whole_1)) && (decide (x25 < x21)))).bind fun v34 => if v34 = true then some (.rt (.tup [en (("parts" : Str) : Str), en (x21 : Int), en (x25 : Int)] : D)) else some (.nx ())) v22 ()) fun t36 => some (.nx ())) h19 (.s (.s (.s (.s (.s (.n (.n (.n (.n .nil))))))))) (fun x21 s20 => (tg_n 7)) (fun x21 s20 => (bl_bind (ei_r1 (ea_cons (ev_cB (ea_cons (ev_n 2) ea_nil) (bi_len parts)) ea_nil)) fun v22 h23 => (bl_seql (ψ := fun (t36 : Unit) => [some (.fz (en (cents : Int))), some (.fz (en (weights : (List Int)))), some (.fz (en (parts : (List Int)))), some (.fz (en (whole_1 : Int))), some (.fz (en (gaps_17 : (List Int)))), none, none, some (.fz (en (x21 : Int))), none]) (bl_for (ψs := fun (s24 : Unit) => [some (.fz (en (cents : Int))), some (.fz (en (weights : (List Int)))), some (.fz (en (parts : (List Int)))), some (.fz (en (whole_1 : Int))), some (.fz (en (gaps_17 : (List Int)))), none, none, some (.fz (en (x21 : Int))), none]) (body := fun (x25 : Int) (s24 : Unit) => (atI gaps_17 x21).bind fun v26 => (atI gaps_17 x25).bind fun v28 => (if (decide (whole_1 < (v26 - v28))) = true then some true else (atI gaps_17 x21).bind fun v30 => (atI gaps_17 x25).bind fun v32 => some ((decide ((v30 - v32) = whole_1)) && (decide (x25 < x21)))).bind fun v34 => if v34 = true then some (.rt (.tup [en (("parts" : Str) : Str), en (x21 : Int), en (x25 : Int)] : D)) else some (.nx ())) h23 (.s (.s (.s (.s (.s (.n (.n (.s (.n .nil))))))))) (fun x25 s24 => (tg_n 8)) (fun x25 s24 => (bl_bind (eo_2 (ev_n 4) (ev_n 7) (op_ix gaps_17 x21)) fun v26 h27 => (bl_bind (eo_2 (ev_n 4) (ev_n 8) (op_ix gaps_17 x25)) fun v28 h29 => (bl_bind (ebo_or (eb_tb (ev_2 (ev_2 h27 h29 (op_sub v26 v28)) (ev_n 3) (op_gt (v26 - v28) whole_1))) (g_bind (eo_2 (ev_n 4) (ev_n 7) (op_ix gaps_17 x21)) fun v30 h31 => (g_bind (eo_2 (ev_n 4) (ev_n 8) (op_ix gaps_17 x25)) fun v32 h33 => (GJ.o (eb_and (eb_tb (ev_2 (ev_2 h31 h33 (op_sub v30 v32)) (ev_n 3) (op_eq (α := Int) (v30 - v32) whole_1))) (eb_tb (ev_2 (ev_n 7) (ev_n 8) (op_gt x21 x25)))))))) fun v34 h35 => (bl_if h35 (bl_ret (ev_tup (a := (.tup [en (("parts" : Str) : Str), en (x21 : Int), en (x25 : Int)] : D)) (ea_cons (ev_k (a := ("parts" : Str))) (ea_cons (ev_n 7) (ea_cons (ev_n 8) ea_nil)))) rf) (bl_nx (nf (.s (.s (.s (.s (.s (.n (.n (.s (.n .nil))))))))))))))))) (fun t36 => (bl_nx (nf (.s (.s (.s (.s (.s (.n (.n (.n (.n .nil)))))))))))))))) (fun t37 => (bl_ret (ev_d (ev_k (a := ()))) rf)))))))))))))))
def T__law_offer  : Dr (List (Int × Int)) := ansM (
  bnd (lift (some ([] : List (Int × Int)))) fun found_1 => bndF (bnd (bnd (bnd (bnd (bnd (ret (8 : Int)) fun (a2 : Int) => bnd (ret ()) fun t3 => ret (a2, t3)) fun (t4 : Int × Unit) => takeT t4.1) fun (a5 : Int) => bnd (ret ()) fun t6 => ret (a5, t6)) fun (t7 : Int × Unit) => lift (rngT t7.1)) fun xs => loopDr (fun (x9 : Int) (s8 : (List (Int × Int))) => bnd (bnd (bnd (ret (30 : Int)) fun (a10 : Int) => bnd (ret ()) fun t11 => ret (a10, t11)) fun (t12 : Int × Unit) => takeT t12.1) fun low_13 => bnd (bnd (bnd (bnd (ret low_13) fun (a31 : Int) => bnd (bnd (bnd (ret low_13) fun (a27 : Int) => bnd (bnd (bnd (bnd (ret (0 : Int)) fun (a19 : Int) => bnd (bnd (bnd (bnd (ret (20 : Int)) fun (a14 : Int) => bnd (ret ()) fun t15 => ret (a14, t15)) fun (t16 : Int × Unit) => takeT t16.1) fun (a17 : Int) => bnd (ret ()) fun t18 => ret (a17, t18)) fun t20 => ret (a19, t20)) fun (t21 : Int × Int × Unit) => ret ([t21.1, t21.2.1] : List Int)) fun (a25 : (List Int)) => bnd (bnd (bnd (ret (2 : Int)) fun (a22 : Int) => bnd (ret ()) fun t23 => ret (a22, t23)) fun (t24 : Int × Unit) => takeT t24.1) fun (b26 : Int) => lift (atI a25 b26)) fun (b28 : Int) => ret (a27 + b28)) fun (a29 : Int) => bnd (ret ()) fun t30 => ret (a29, t30)) fun t32 => ret (a31, t32)) fun (t33 : Int × Int × Unit) => ret (t33.1, t33.2.1)) fun v34 => lift (apT s8 v34)) fun found_35 => ret (.nx found_35)) xs found_1) fun t36 => ret (.rt t36))
theorem r__law_offer  : IOk I__law_offer [] (T__law_offer ) := by
  refine fn_I (N := fun _ _ => True) (B := fun _ _ => True) rfl (by decide) (fun p => ?_)
  exact (bm_sm (sm_ss fun st => (ss_setL 1 (GJ.o (el_lst (xs := ([] : List (Int × Int))) ea_nil)))) (fun found_1 => (bm_seq (ψ := fun (t36 : (List (Int × Int))) st => [some (atS p st), some (olE (t36 : (List (Int × Int)))), none, none]) (bm_forM (ψs := fun (s8 : (List (Int × Int))) st => [some (atS p st), some (olE (s8 : (List (Int × Int)))), none, none]) (body := fun (x9 : Int) (s8 : (List (Int × Int))) => bnd (bnd (bnd (ret (30 : Int)) fun (a10 : Int) => bnd (ret ()) fun t11 => ret (a10, t11)) fun (t12 : Int × Unit) => takeT t12.1) fun low_13 => bnd (bnd (bnd (bnd (ret low_13) fun (a31 : Int) => bnd (bnd (bnd (ret low_13) fun (a27 : Int) => bnd (bnd (bnd (bnd (ret (0 : Int)) fun (a19 : Int) => bnd (bnd (bnd (bnd (ret (20 : Int)) fun (a14 : Int) => bnd (ret ()) fun t15 => ret (a14, t15)) fun (t16 : Int × Unit) => takeT t16.1) fun (a17 : Int) => bnd (ret ()) fun t18 => ret (a17, t18)) fun t20 => ret (a19, t20)) fun (t21 : Int × Int × Unit) => ret ([t21.1, t21.2.1] : List Int)) fun (a25 : (List Int)) => bnd (bnd (bnd (ret (2 : Int)) fun (a22 : Int) => bnd (ret ()) fun t23 => ret (a22, t23)) fun (t24 : Int × Unit) => takeT t24.1) fun (b26 : Int) => lift (atI a25 b26)) fun (b28 : Int) => ret (a27 + b28)) fun (a29 : Int) => bnd (ret ()) fun t30 => ret (a29, t30)) fun t32 => ret (a31, t32)) fun (t33 : Int × Int × Unit) => ret (t33.1, t33.2.1)) fun v34 => lift (apT s8 v34)) fun found_35 => ret (.nx found_35)) (gm_r1 (v := fun (t7 : Int × Unit) => t7.1) (ma_cons (gm_take (v := fun (t4 : Int × Unit) => t4.1) 0 (ma_cons (gm_pur fun st => (ev_k (a := (8 : Int)))) ma_nil) (fun t => rfl)) ma_nil) (fun t => rfl)) (fun st => (.s (.s (.n (.n .nil))))) (fun x9 s8 st => (tg_n 2)) (fun x9 s8 => (bm_sm (sm_set 3 (gm_take (v := fun (t12 : Int × Unit) => t12.1) 0 (ma_cons (gm_pur fun st => (ev_k (a := (30 : Int)))) ma_nil) (fun t => rfl))) (fun low_13 => (bm_sml (sm_app 1 (fun st => rfl) (gm_tup (v := fun (t33 : Int × Int × Unit) => ((t33.1, t33.2.1) : (Int × Int))) (ma_cons (gm_pur fun st => (ev_n 3)) (ma_cons (gm_2 (r := fun (a27 : Int) (b28 : Int) => (a27 + b28)) (gm_pur fun st => (ev_n 3)) (gm_2o (r := fun (a25 : (List Int)) (b26 : Int) => atI a25 b26) (gm_lst (v := fun (t21 : Int × Int × Unit) => ([t21.1, t21.2.1] : List Int)) (ma_cons (gm_pur fun st => (ev_k (a := (0 : Int)))) (ma_cons (gm_take (v := fun (t16 : Int × Unit) => t16.1) 0 (ma_cons (gm_pur fun st => (ev_k (a := (20 : Int)))) ma_nil) (fun t => rfl)) ma_nil)) (fun t => rfl) (fun t => (by exact Nat.le_of_ble_eq_true rfl : 2 < 1000))) (gm_take (v := fun (t24 : Int × Unit) => t24.1) 0 (ma_cons (gm_pur fun st => (ev_k (a := (2 : Int)))) ma_nil) (fun t => rfl)) (fun (a25 : (List Int)) (b26 : Int) => (op_ix a25 b26))) (fun (a27 : Int) (b28 : Int) => (op_add a27 b28))) ma_nil)) (fun t => rfl) (fun t => (by exact Nat.le_of_ble_eq_true rfl : 2 < 1000)))) (fun found_35 => (bm_blr fun st => (bl_nx (nm st (.s (.s (.n (.n .nil))))))))))))) (fun t36 => (bm_blr fun st => (bl_fzL 1 rfl (bl_ret (ev_n 1) (rm st))))))))
def T__law_worst (rows : (List (Int × Int))) (many : Int) : Option Int := ansT (
  ((sortO (List.map (fun (x1 : (Int × Int)) => (x1.2 - x1.1)) rows)).bind fun v2 => some (List.reverse v2)).bind fun gains_4 => some (.rt (((List.map (fun (x5 : (Int × Int)) => x5.1) rows).sum) + ((VL.cutD gains_4 none (some many)).sum))))
theorem r__law_worst (rows : (List (Int × Int))) (many : Int) : ∀ r, T__law_worst rows many = some r → ∃ s, F__law_worst [en rows, en many] = some s ∧ frS s = some (en r) := by
  refine fn_f (N := fun _ _ => True) (B := fun _ _ => True) rfl ?_
  exact (bl_ss (ss_set 2 (g_bind (elo_cL (ea_cons (ev_fL (el_map (gg := fun (x1 : (Int × Int)) => (x1.2 - x1.1)) (ei_seq (ev_n 0)) (fun (x1 : (Int × Int)) => (tg_2 (tg_n 3) (tg_n 4))) (fun (x1 : (Int × Int)) => (ev_2 (ev_n 4) (ev_n 3) (op_sub x1.2 x1.1))))) ea_nil) (bi_sort (List.map (fun (x1 : (Int × Int)) => (x1.2 - x1.1)) rows))) fun v2 h3 => (GJ.o (ev_fL (el_rev (ev_fL h3)))))) (fun gains_4 => (bl_ret (ev_2 (ev_cB (ea_cons (ev_fL (el_map (gg := fun (x5 : (Int × Int)) => x5.1) (ei_seq (ev_n 0)) (fun (x5 : (Int × Int)) => (tg_2 (tg_n 3) (tg_n 4))) (fun (x5 : (Int × Int)) => (ev_n 3)))) ea_nil) (bi_sum (List.map (fun (x5 : (Int × Int)) => x5.1) rows))) (ev_cB (ea_cons (ev_fL (el_cut (ev_n 2) es_0 (es_1 (ev_n 1)))) ea_nil) (bi_sum (VL.cutD gains_4 none (some many)))) (op_add ((List.map (fun (x5 : (Int × Int)) => x5.1) rows).sum) ((VL.cutD gains_4 none (some many)).sum))) rf)))
def T__law_fault (rows : (List (Int × Int))) (many : Int) (told : (Int × (List Int))) : Option D := ansT (
  (some told).bind fun y_2 => (setT y_2.2).bind fun v3 => if ((!decide (y_2.2 = v3)) || ((decide ((0 : Int) < ((List.map (fun (x5 : Int) => x5) (List.filter (fun (x5 : Int) => (!((decide ((0 : Int) ≤ x5)) && (decide (x5 < (rows.length : Int)))))) y_2.2)).length : Int))) || (decide (many < (y_2.2.length : Int))))) = true then some (.rt (.tup [en (("chosen" : Str) : Str)] : D)) else (mapT (fun (x7 : Int) => (atI rows x7).bind fun v8 => (atI rows x7).bind fun v10 => some (v8.2 - v10.1)) y_2.2).bind fun v12 => if (!decide ((((List.map (fun (x6 : (Int × Int)) => x6.1) rows).sum) + v12.sum) = y_2.1)) = true then some (.rt (.tup [en (("cost" : Str) : Str)] : D)) else if (decide (many = (0 : Int))) = true then some (.rt (en (() : Unit) : D)) else (if (decide ((y_2.2.length : Int) = many)) = true then (mapT (fun (x14 : Int) => (atI rows x14).bind fun v15 => (atI rows x14).bind fun v17 => some (v15.2 - v17.1)) y_2.2).bind fun v19 => minT v19 else some (0 : Int)).bind fun least_25 => (rngT (rows.length : Int)).bind fun v26 => sqT (loopT (fun (x29 : Int) (s28 : Unit) => (if (!decide (x29 ∈ y_2.2)) = true then (atI rows x29).bind fun v30 => (atI rows x29).bind fun v32 => some (decide (least_25 < (v30.2 - v32.1))) else some false).bind fun v34 => if v34 = true then some (.rt (.tup [en (("dearer" : Str) : Str), en (x29 : Int)] : D)) else some (.nx ())) v26 ()) fun t36 => some (.rt (en (() : Unit) : D)))
theorem r__law_fault (rows : (List (Int × Int))) (many : Int) (told : (Int × (List Int))) : ∀ r, T__law_fault rows many told = some r → ∃ s, F__law_fault [en rows, en many, en told] = some s ∧ frS s = some (en r) := by
  refine fn_f (N := fun _ _ => True) (B := fun _ _ => True) rfl ?_
  exact (bl_ss (ss_tg (GJ.o (ev_n 2)) (fun y1 => (tg_2 (tg_n 3) (tg_n 4)))) (fun y_2 => (bl_bind (elo_set (ev_n 4)) fun v3 h4 => (bl_ifA (eb_or (eb_tb (ev_2 (ev_n 4) (ev_fL h4) (op_ne (α := (List Int)) y_2.2 v3))) (eb_or (eb_tb (ev_2 (ev_cB (ea_cons (ev_fL (el_comp (cc := fun (x5 : Int) => (!((decide ((0 : Int) ≤ x5)) && (decide (x5 < (rows.length : Int)))))) (gg := fun (x5 : Int) => x5) (ei_seq (ev_n 4)) (fun (x5 : Int) => (tg_n 5)) (fun (x5 : Int) => (eb_not (eb_tb (ev_ch (ev_k (a := (0 : Int))) (ev_n 5) (ev_cB (ea_cons (ev_n 0) ea_nil) (bi_len rows)) (op_le (0 : Int) x5) (op_lt x5 (rows.length : Int)))))) (fun (x5 : Int) => (ev_n 5)))) ea_nil) (bi_len (List.map (fun (x5 : Int) => x5) (List.filter (fun (x5 : Int) => (!((decide ((0 : Int) ≤ x5)) && (decide (x5 < (rows.length : Int)))))) y_2.2)))) (ev_k (a := (0 : Int))) (op_gt ((List.map (fun (x5 : Int) => x5) (List.filter (fun (x5 : Int) => (!((decide ((0 : Int) ≤ x5)) && (decide (x5 < (rows.length : Int)))))) y_2.2)).length : Int) (0 : Int)))) (eb_tb (ev_2 (ev_cB (ea_cons (ev_n 4) ea_nil) (bi_len y_2.2)) (ev_n 1) (op_gt (y_2.2.length : Int) many))))) (bl_ret (ev_tup (a := (.tup [en (("chosen" : Str) : Str)] : D)) (ea_cons (ev_k (a := ("chosen" : Str))) ea_nil)) rf) (bl_skip (bl_bind (elo_map (gg := fun (x7 : Int) => (atI rows x7).bind fun v8 => (atI rows x7).bind fun v10 => some (v8.2 - v10.1)) (ei_seq (ev_n 4)) (fun (x7 : Int) => (tg_n 5)) (fun (x7 : Int) => (g_bind (eo_2 (ev_n 0) (ev_n 5) (op_ix rows x7)) fun v8 h9 => (g_bind (eo_2 (ev_n 0) (ev_n 5) (op_ix rows x7)) fun v10 h11 => (GJ.o (ev_2 (ev_2 h9 (ev_k (a := (1 : Int))) (op_21 v8)) (ev_2 h11 (ev_k (a := (0 : Int))) (op_20 v10)) (op_sub v8.2 v10.1))))))) fun v12 h13 => (bl_ifA (eb_tb (ev_2 (ev_2 (ev_cB (ea_cons (ev_fL (el_map (gg := fun (x6 : (Int × Int)) => x6.1) (ei_seq (ev_n 0)) (fun (x6 : (Int × Int)) => (tg_2 (tg_n 6) (tg_n 7))) (fun (x6 : (Int × Int)) => (ev_n 6)))) ea_nil) (bi_sum (List.map (fun (x6 : (Int × Int)) => x6.1) rows))) (ev_cB (ea_cons (ev_fL h13) ea_nil) (bi_sum v12)) (op_add ((List.map (fun (x6 : (Int × Int)) => x6.1) rows).sum) v12.sum)) (ev_n 3) (op_ne (α := Int) (((List.map (fun (x6 : (Int × Int)) => x6.1) rows).sum) + v12.sum) y_2.1))) (bl_ret (ev_tup (a := (.tup [en (("cost" : Str) : Str)] : D)) (ea_cons (ev_k (a := ("cost" : Str))) ea_nil)) rf) (bl_skip (bl_ifA (eb_tb (ev_2 (ev_n 1) (ev_k (a := (0 : Int))) (op_eq (α := Int) many (0 : Int)))) (bl_ret (ev_d (ev_k (a := ()))) rf) (bl_skip (bl_ss (ss_set 8 (eo_if (eb_tb (ev_2 (ev_cB (ea_cons (ev_n 4) ea_nil) (bi_len y_2.2)) (ev_n 1) (op_eq (α := Int) (y_2.2.length : Int) many))) (g_bind (elo_map (gg := fun (x14 : Int) => (atI rows x14).bind fun v15 => (atI rows x14).bind fun v17 => some (v15.2 - v17.1)) (ei_seq (ev_n 4)) (fun (x14 : Int) => (tg_n 5)) (fun (x14 : Int) => (g_bind (eo_2 (ev_n 0) (ev_n 5) (op_ix rows x14)) fun v15 h16 => (g_bind (eo_2 (ev_n 0) (ev_n 5) (op_ix rows x14)) fun v17 h18 => (GJ.o (ev_2 (ev_2 h16 (ev_k (a := (1 : Int))) (op_21 v15)) (ev_2 h18 (ev_k (a := (0 : Int))) (op_20 v17)) (op_sub v15.2 v17.1))))))) fun v19 h20 => (eo_cB (ea_cons (ev_fL h20) ea_nil) (bi_min v19))) (GJ.o (ev_k (a := (0 : Int)))))) (fun least_25 => (bl_bind (ei_r1 (ea_cons (ev_cB (ea_cons (ev_n 0) ea_nil) (bi_len rows)) ea_nil)) fun v26 h27 => (bl_seq (ψ := fun (t36 : Unit) => [some (.fz (en (rows : (List (Int × Int))))), some (.fz (en (many : Int))), some (.fz (en (told : (Int × (List Int))))), some (.fz (en (y_2.1 : Int))), some (.fz (en (y_2.2 : (List Int)))), none, none, none, some (.fz (en (least_25 : Int)))]) (bl_for (ψs := fun (s28 : Unit) => [some (.fz (en (rows : (List (Int × Int))))), some (.fz (en (many : Int))), some (.fz (en (told : (Int × (List Int))))), some (.fz (en (y_2.1 : Int))), some (.fz (en (y_2.2 : (List Int)))), none, none, none, some (.fz (en (least_25 : Int)))]) (body := fun (x29 : Int) (s28 : Unit) => (if (!decide (x29 ∈ y_2.2)) = true then (atI rows x29).bind fun v30 => (atI rows x29).bind fun v32 => some (decide (least_25 < (v30.2 - v32.1))) else some false).bind fun v34 => if v34 = true then some (.rt (.tup [en (("dearer" : Str) : Str), en (x29 : Int)] : D)) else some (.nx ())) h27 (.s (.s (.s (.s (.s (.n (.n (.n (.s .nil))))))))) (fun x29 s28 => (tg_n 5)) (fun x29 s28 => (bl_bind (ebo_and (eb_tb (ev_2 (ev_n 5) (ev_n 4) (op_nin (α := Int) x29 y_2.2))) (g_bind (eo_2 (ev_n 0) (ev_n 5) (op_ix rows x29)) fun v30 h31 => (g_bind (eo_2 (ev_n 0) (ev_n 5) (op_ix rows x29)) fun v32 h33 => (GJ.o (eb_tb (ev_2 (ev_2 (ev_2 h31 (ev_k (a := (1 : Int))) (op_21 v30)) (ev_2 h33 (ev_k (a := (0 : Int))) (op_20 v32)) (op_sub v30.2 v32.1)) (ev_n 8) (op_gt (v30.2 - v32.1) least_25))))))) fun v34 h35 => (bl_if h35 (bl_ret (ev_tup (a := (.tup [en (("dearer" : Str) : Str), en (x29 : Int)] : D)) (ea_cons (ev_k (a := ("dearer" : Str))) (ea_cons (ev_n 5) ea_nil))) rf) (bl_nx (nf (.s (.s (.s (.s (.s (.n (.n (.n (.s .nil))))))))))))))) (fun t36 => (bl_ret (ev_d (ev_k (a := ()))) rf))))))))))))))))
def T__law_shared (cents : Int) (weights : (List Int)) : Option (List Int) := ansT (
  (some weights.sum).bind fun whole_1 => if (decide (whole_1 = (0 : Int))) = true then some (.rt (List.map (fun (x2 : Int) => (0 : Int)) weights)) else (mapT (fun (x3 : Int) => (mulT cents x3).bind fun v4 => divT v4 whole_1) weights).bind fun parts_10 => sqT (whT (fun (s11 : (List Int)) => some (decide (s11.sum < cents))) (fun (s11 : (List Int)) => ((rngT (weights.length : Int)).bind fun v12 => (mapT (fun (x14 : Int) => (atI s11 x14).bind fun v15 => (mulT v15 whole_1).bind fun v17 => (atI weights x14).bind fun v19 => (mulT cents v19).bind fun v21 => some ((v17 - v21), x14)) v12).bind fun v23 => some v23).bind fun rests_25 => ((minT rests_25).bind fun v26 => (atI s11 v26.2).bind fun v28 => (minT rests_25).bind fun v30 => putT s11 v30.2 (v28 + (1 : Int))).bind fun y_32 => some (.nx y_32)) (fuelK 1000) parts_10) fun t33 => some (.rt t33))
theorem r__law_shared (cents : Int) (weights : (List Int)) : ∀ r, T__law_shared cents weights = some r → ∃ s, F__law_shared [en cents, en weights] = some s ∧ frS s = some (en r) := by
  refine fn_f (N := fun _ _ => True) (B := fun _ _ => True) rfl ?_
  exact (bl_ss (ss_set 2 (GJ.o (ev_cB (ea_cons (ev_n 1) ea_nil) (bi_sum weights)))) (fun whole_1 => (bl_ifA (eb_tb (ev_2 (ev_n 2) (ev_k (a := (0 : Int))) (op_eq (α := Int) whole_1 (0 : Int)))) (bl_ret (ev_fL (el_map (gg := fun (x2 : Int) => (0 : Int)) (ei_seq (ev_n 1)) (fun (x2 : Int) => (tg_n 3)) (fun (x2 : Int) => (ev_k (a := (0 : Int)))))) rf) (bl_skip (bl_ss (ss_setL 4 (elo_map (gg := fun (x3 : Int) => (mulT cents x3).bind fun v4 => divT v4 whole_1) (ei_seq (ev_n 1)) (fun (x3 : Int) => (tg_n 3)) (fun (x3 : Int) => (g_bind (eo_2 (ev_n 0) (ev_n 3) (op_mul cents x3)) fun v4 h5 => (eo_2 h5 (ev_n 2) (op_div v4 whole_1)))))) (fun parts_10 => (bl_seq (ψ := fun (t33 : (List Int)) => [some (.fz (en (cents : Int))), some (.fz (en (weights : (List Int)))), some (.fz (en (whole_1 : Int))), none, some (olE (t33 : (List Int))), none, none]) (bl_wh (ψs := fun (s11 : (List Int)) => [some (.fz (en (cents : Int))), some (.fz (en (weights : (List Int)))), some (.fz (en (whole_1 : Int))), none, some (olE (s11 : (List Int))), none, none]) (cc := fun (s11 : (List Int)) => some (decide (s11.sum < cents))) (wb := fun (s11 : (List Int)) => ((rngT (weights.length : Int)).bind fun v12 => (mapT (fun (x14 : Int) => (atI s11 x14).bind fun v15 => (mulT v15 whole_1).bind fun v17 => (atI weights x14).bind fun v19 => (mulT cents v19).bind fun v21 => some ((v17 - v21), x14)) v12).bind fun v23 => some v23).bind fun rests_25 => ((minT rests_25).bind fun v26 => (atI s11 v26.2).bind fun v28 => (minT rests_25).bind fun v30 => putT s11 v30.2 (v28 + (1 : Int))).bind fun y_32 => some (.nx y_32)) (n := (fuelK 1000)) (fun _ _ => (fuelK_eq _).symm) (.s (.s (.s (.n (.s (.n (.n .nil))))))) (fun s11 => (GJ.o (eb_tb (ev_2 (ev_cB (ea_cons (ev_wl 4) ea_nil) (bi_sum s11)) (ev_n 0) (op_lt s11.sum cents))))) (fun s11 => (bl_ss (ss_set 5 (g_bind (ei_r1 (ea_cons (ev_cB (ea_cons (ev_n 1) ea_nil) (bi_len weights)) ea_nil)) fun v12 h13 => (g_bind (elo_map (gg := fun (x14 : Int) => (atI s11 x14).bind fun v15 => (mulT v15 whole_1).bind fun v17 => (atI weights x14).bind fun v19 => (mulT cents v19).bind fun v21 => some ((v17 - v21), x14)) h13 (fun (x14 : Int) => (tg_n 6)) (fun (x14 : Int) => (g_bind (ev_ixO 4 rfl (ev_n 6)) fun v15 h16 => (g_bind (eo_2 h16 (ev_n 2) (op_mul v15 whole_1)) fun v17 h18 => (g_bind (eo_2 (ev_n 1) (ev_n 6) (op_ix weights x14)) fun v19 h20 => (g_bind (eo_2 (ev_n 0) h20 (op_mul cents v19)) fun v21 h22 => (GJ.o (ev_tup (a := (((v17 - v21), x14) : (Int × Int))) (ea_cons (ev_2 h18 h22 (op_sub v17 v21)) (ea_cons (ev_n 6) ea_nil)))))))))) fun v23 h24 => (GJ.o (ev_fL h24))))) (fun rests_25 => (bl_ssl (ss_bind (eo_cB (ea_cons (ev_n 5) ea_nil) (bi_min rests_25)) fun v26 h27 => (ss_bind (ev_ixO 4 rfl (ev_2 h27 (ev_k (a := (1 : Int))) (op_21 v26))) fun v28 h29 => (ss_bind (eo_cB (ea_cons (ev_n 5) ea_nil) (bi_min rests_25)) fun v30 h31 => (ss_putL 4 rfl (ev_2 h31 (ev_k (a := (1 : Int))) (op_21 v30)) (ev_2 h29 (ev_k (a := (1 : Int))) (op_add v28 (1 : Int))))))) (fun y_32 => (bl_nx (nf (.s (.s (.s (.n (.s (.n (.n .nil))))))))))))))) (fun t33 => (bl_retN 4 rfl rfl_)))))))))
def T__law_shared_fault (cents : Int) (weights : (List Int)) (parts : (List Int)) : Option D := ansT (
  (some weights.sum).bind fun whole_1 => if ((!decide ((parts.length : Int) = (weights.length : Int))) || (decide ((0 : Int) < ((List.map (fun (x2 : Int) => x2) (List.filter (fun (x2 : Int) => (decide (x2 < (0 : Int)))) parts)).length : Int)))) = true then some (.rt (.tup [en (("form" : Str) : Str)] : D)) else if (decide (whole_1 = (0 : Int))) = true then some (.rt (if (decide (parts.sum = (0 : Int))) = true then (en (() : Unit) : D) else (.tup [en (("sum" : Str) : Str)] : D))) else if (!decide (parts.sum = cents)) = true then some (.rt (.tup [en (("sum" : Str) : Str)] : D)) else (rngT (parts.length : Int)).bind fun v3 => sqT (loopT (fun (x6 : Int) (s5 : Unit) => (rngT (parts.length : Int)).bind fun v7 => sqT (loopT (fun (x10 : Int) (s9 : Unit) => ((atI parts x6).bind fun v11 => (atI parts x10).bind fun v13 => (mulT (v11 - v13) whole_1).bind fun v15 => (atI weights x6).bind fun v17 => (atI weights x10).bind fun v19 => (mulT cents (v17 - v19)).bind fun v21 => some (v15 - v21)).bind fun more_23 => if ((decide (whole_1 < more_23)) || ((decide (more_23 = whole_1)) && (decide (x10 < x6)))) = true then some (.rt (.tup [en (("parts" : Str) : Str), en (x6 : Int), en (x10 : Int)] : D)) else some (.nx ())) v7 ()) fun t24 => some (.nx ())) v3 ()) fun t25 => some (.rt (en (() : Unit) : D)))
theorem r__law_shared_fault (cents : Int) (weights : (List Int)) (parts : (List Int)) : ∀ r, T__law_shared_fault cents weights parts = some r → ∃ s, F__law_shared_fault [en cents, en weights, en parts] = some s ∧ frS s = some (en r) := by
  refine fn_f (N := fun _ _ => True) (B := fun _ _ => True) rfl ?_
  exact (bl_ss (ss_set 3 (GJ.o (ev_cB (ea_cons (ev_n 1) ea_nil) (bi_sum weights)))) (fun whole_1 => (bl_ifA (eb_or (eb_tb (ev_2 (ev_cB (ea_cons (ev_n 2) ea_nil) (bi_len parts)) (ev_cB (ea_cons (ev_n 1) ea_nil) (bi_len weights)) (op_ne (α := Int) (parts.length : Int) (weights.length : Int)))) (eb_tb (ev_2 (ev_cB (ea_cons (ev_fL (el_comp (cc := fun (x2 : Int) => (decide (x2 < (0 : Int)))) (gg := fun (x2 : Int) => x2) (ei_seq (ev_n 2)) (fun (x2 : Int) => (tg_n 4)) (fun (x2 : Int) => (eb_tb (ev_2 (ev_n 4) (ev_k (a := (0 : Int))) (op_lt x2 (0 : Int))))) (fun (x2 : Int) => (ev_n 4)))) ea_nil) (bi_len (List.map (fun (x2 : Int) => x2) (List.filter (fun (x2 : Int) => (decide (x2 < (0 : Int)))) parts)))) (ev_k (a := (0 : Int))) (op_gt ((List.map (fun (x2 : Int) => x2) (List.filter (fun (x2 : Int) => (decide (x2 < (0 : Int)))) parts)).length : Int) (0 : Int))))) (bl_ret (ev_tup (a := (.tup [en (("form" : Str) : Str)] : D)) (ea_cons (ev_k (a := ("form" : Str))) ea_nil)) rf) (bl_skip (bl_ifA (eb_tb (ev_2 (ev_n 3) (ev_k (a := (0 : Int))) (op_eq (α := Int) whole_1 (0 : Int)))) (bl_ret (ev_if (eb_tb (ev_2 (ev_cB (ea_cons (ev_n 2) ea_nil) (bi_sum parts)) (ev_k (a := (0 : Int))) (op_eq (α := Int) parts.sum (0 : Int)))) (ev_d (ev_k (a := ()))) (ev_tup (a := (.tup [en (("sum" : Str) : Str)] : D)) (ea_cons (ev_k (a := ("sum" : Str))) ea_nil))) rf) (bl_skip (bl_ifA (eb_tb (ev_2 (ev_cB (ea_cons (ev_n 2) ea_nil) (bi_sum parts)) (ev_n 0) (op_ne (α := Int) parts.sum cents))) (bl_ret (ev_tup (a := (.tup [en (("sum" : Str) : Str)] : D)) (ea_cons (ev_k (a := ("sum" : Str))) ea_nil)) rf) (bl_skip (bl_bind (ei_r1 (ea_cons (ev_cB (ea_cons (ev_n 2) ea_nil) (bi_len parts)) ea_nil)) fun v3 h4 => (bl_seq (ψ := fun (t25 : Unit) => [some (.fz (en (cents : Int))), some (.fz (en (weights : (List Int)))), some (.fz (en (parts : (List Int)))), some (.fz (en (whole_1 : Int))), none, none, none, none]) (bl_for (ψs := fun (s5 : Unit) => [some (.fz (en (cents : Int))), some (.fz (en (weights : (List Int)))), some (.fz (en (parts : (List Int)))), some (.fz (en (whole_1 : Int))), none, none, none, none]) (body := fun (x6 : Int) (s5 : Unit) => (rngT (parts.length : Int)).bind fun v7 => sqT (loopT (fun (x10 : Int) (s9 : Unit) => ((atI parts x6).bind fun v11 => (atI parts x10).bind fun v13 => (mulT (v11 - v13) whole_1).bind fun v15 => (atI weights x6).bind fun v17 => (atI weights x10).bind fun v19 => (mulT cents (v17 - v19)).bind fun v21 => some (v15 - v21)).bind fun more_23 => if ((decide (whole_1 < more_23)) || ((decide (more_23 = whole_1)) && (decide (x10 < x6)))) = true then some (.rt (.tup [en (("parts" : Str) : Str), en (x6 : Int), en (x10 : Int)] : D)) else some (.nx ())) v7 ()) fun t24 => some (.nx ())) h4 (.s (.s (.s (.s (.n (.n (.n (.n .nil)))))))) (fun x6 s5 => (tg_n 5)) (fun x6 s5 => (bl_bind (ei_r1 (ea_cons (ev_cB (ea_cons (ev_n 2) ea_nil) (bi_len parts)) ea_nil)) fun v7 h8 => (bl_seql (ψ := fun (t24 : Unit) => [some (.fz (en (cents : Int))), some (.fz (en (weights : (List Int)))), some (.fz (en (parts : (List Int)))), some (.fz (en (whole_1 : Int))), none, some (.fz (en (x6 : Int))), none, none]) (bl_for (ψs := fun (s9 : Unit) => [some (.fz (en (cents : Int))), some (.fz (en (weights : (List Int)))), some (.fz (en (parts : (List Int)))), some (.fz (en (whole_1 : Int))), none, some (.fz (en (x6 : Int))), none, none]) (body := fun (x10 : Int) (s9 : Unit) => ((atI parts x6).bind fun v11 => (atI parts x10).bind fun v13 => (mulT (v11 - v13) whole_1).bind fun v15 => (atI weights x6).bind fun v17 => (atI weights x10).bind fun v19 => (mulT cents (v17 - v19)).bind fun v21 => some (v15 - v21)).bind fun more_23 => if ((decide (whole_1 < more_23)) || ((decide (more_23 = whole_1)) && (decide (x10 < x6)))) = true then some (.rt (.tup [en (("parts" : Str) : Str), en (x6 : Int), en (x10 : Int)] : D)) else some (.nx ())) h8 (.s (.s (.s (.s (.n (.s (.n (.n .nil)))))))) (fun x10 s9 => (tg_n 6)) (fun x10 s9 => (bl_ss (ss_set 7 (g_bind (eo_2 (ev_n 2) (ev_n 5) (op_ix parts x6)) fun v11 h12 => (g_bind (eo_2 (ev_n 2) (ev_n 6) (op_ix parts x10)) fun v13 h14 => (g_bind (eo_2 (ev_2 h12 h14 (op_sub v11 v13)) (ev_n 3) (op_mul (v11 - v13) whole_1)) fun v15 h16 => (g_bind (eo_2 (ev_n 1) (ev_n 5) (op_ix weights x6)) fun v17 h18 => (g_bind (eo_2 (ev_n 1) (ev_n 6) (op_ix weights x10)) fun v19 h20 => (g_bind (eo_2 (ev_n 0) (ev_2 h18 h20 (op_sub v17 v19)) (op_mul cents (v17 - v19))) fun v21 h22 => (GJ.o (ev_2 h16 h22 (op_sub v15 v21)))))))))) (fun more_23 => (bl_if (eb_or (eb_tb (ev_2 (ev_n 7) (ev_n 3) (op_gt more_23 whole_1))) (eb_and (eb_tb (ev_2 (ev_n 7) (ev_n 3) (op_eq (α := Int) more_23 whole_1))) (eb_tb (ev_2 (ev_n 5) (ev_n 6) (op_gt x6 x10))))) (bl_ret (ev_tup (a := (.tup [en (("parts" : Str) : Str), en (x6 : Int), en (x10 : Int)] : D)) (ea_cons (ev_k (a := ("parts" : Str))) (ea_cons (ev_n 5) (ea_cons (ev_n 6) ea_nil)))) rf) (bl_nx (nf (.s (.s (.s (.s (.n (.s (.n (.n .nil))))))))))))))) (fun t24 => (bl_nx (nf (.s (.s (.s (.s (.n (.n (.n (.n .nil))))))))))))))) (fun t25 => (bl_ret (ev_d (ev_k (a := ()))) rf))))))))))))
def T__law_shares_right  : Dr Bool := ansM (
  bnd (bnd (bnd (bnd (bnd (bnd (ret (9 : Int)) fun (a1 : Int) => bnd (ret ()) fun t2 => ret (a1, t2)) fun (t3 : Int × Unit) => takeT t3.1) fun (a11 : Int) => bnd (bnd (bnd (bnd (lift (powT (10 : Int) (6 : Int))) fun (a6 : Int) => bnd (ret ()) fun t7 => ret (a6, t7)) fun (t8 : Int × Unit) => takeT t8.1) fun (a9 : Int) => bnd (ret ()) fun t10 => ret (a9, t10)) fun t12 => ret (a11, t12)) fun (t13 : Int × Int × Unit) => ret ([t13.1, t13.2.1] : List Int)) fun (a17 : (List Int)) => bnd (bnd (bnd (ret (2 : Int)) fun (a14 : Int) => bnd (ret ()) fun t15 => ret (a14, t15)) fun (t16 : Int × Unit) => takeT t16.1) fun (b18 : Int) => lift (atI a17 b18)) fun cents_19 => bnd (bnd (bnd (bnd (bnd (bnd (ret (7 : Int)) fun (a20 : Int) => bnd (ret ()) fun t21 => ret (a20, t21)) fun (t22 : Int × Unit) => takeT t22.1) fun (a23 : Int) => bnd (ret ()) fun t24 => ret (a23, t24)) fun (t25 : Int × Unit) => lift (rngT t25.1)) fun xs => compDr (fun (x26 : Int) => ret true) (fun (x26 : Int) => bnd (bnd (bnd (ret [(2 : Int), (30 : Int)]) fun (a30 : (List Int)) => bnd (bnd (bnd (ret (2 : Int)) fun (a27 : Int) => bnd (ret ()) fun t28 => ret (a27, t28)) fun (t29 : Int × Unit) => takeT t29.1) fun (b31 : Int) => lift (atI a30 b31)) fun (a32 : Int) => bnd (ret ()) fun t33 => ret (a32, t33)) fun (t34 : Int × Unit) => takeT t34.1) xs) fun weights_35 => bnd (lift (T_shared cents_19 weights_35)) fun parts_38 => bnd (lift (T__law_shared cents_19 weights_35)) fun v39 => bnd (lift (if (!decide (parts_38 = v39)) = true then some true else (T_shared_fault cents_19 weights_35 parts_38).bind fun v41 => some (!nonD v41))) fun v43 => if v43 = true then ret (.rt false) else bnd (lift (rngT (4 : Int))) fun v45 => bndF (loopDr (fun (x48 : Int) (s47 : Unit) => bnd (lift (some parts_38)) fun other_49 => bndF (if (decide ((0 : Int) < (other_49.length : Int))) = true then bnd (bnd (bnd (bnd (ret (other_49.length : Int)) fun (a83 : Int) => bnd (ret ()) fun t84 => ret (a83, t84)) fun (t85 : Int × Unit) => takeT t85.1) fun (a91 : Int) => bnd (bnd (bnd (bnd (ret (other_49.length : Int)) fun (a86 : Int) => bnd (ret ()) fun t87 => ret (a86, t87)) fun (t88 : Int × Unit) => takeT t88.1) fun (a89 : Int) => bnd (ret ()) fun t90 => ret (a89, t90)) fun t92 => ret (a91, t92)) fun y_94 => bnd (lift ((atI other_49 y_94.1).bind fun v95 => putT other_49 y_94.1 (v95 + (1 : Int)))) fun y_97 => bnd (bnd (bnd (lift (atI y_97 y_94.2.1)) fun (a105 : Int) => bnd (bnd (ret [(1 : Int), (1 : Int), (2 : Int)]) fun (a103 : (List Int)) => bnd (bnd (bnd (ret (3 : Int)) fun (a100 : Int) => bnd (ret ()) fun t101 => ret (a100, t101)) fun (t102 : Int × Unit) => takeT t102.1) fun (b104 : Int) => lift (atI a103 b104)) fun (b106 : Int) => ret (a105 - b106)) fun v107 => lift (putT y_97 y_94.2.1 v107)) fun y_108 => bnd (bnd (bnd (bnd (bnd (ret (6 : Int)) fun (a109 : Int) => bnd (ret ()) fun t110 => ret (a109, t110)) fun (t111 : Int × Unit) => takeT t111.1) fun (a112 : Int) => bnd (ret (0 : Int)) fun (b113 : Int) => ret (decide (b113 < a112))) fun b114 => if b114 = true then ret y_108 else ret (VL.cutD y_108 (some (1 : Int)) none)) fun other_115 => ret (.nx other_115) else ret (.nx other_49)) fun t116 => lift ((T_shared_fault cents_19 weights_35 t116).bind fun v117 => (T__law_shared_fault cents_19 weights_35 t116).bind fun v119 => (neDT v117 v119).bind fun v121 => if v121 = true then some (.rt false) else some (.nx ()))) v45 ()) fun t123 => ret (.rt true))
theorem r__law_shares_right  : IOk I__law_shares_right [] (T__law_shares_right ) := by
  refine fn_I (N := fun _ _ => True) (B := fun _ _ => True) rfl (by decide) (fun p => ?_)
  exact (bm_sm (sm_set 1 (gm_2o (r := fun (a17 : (List Int)) (b18 : Int) => atI a17 b18) (gm_lst (v := fun (t13 : Int × Int × Unit) => ([t13.1, t13.2.1] : List Int)) (ma_cons (gm_take (v := fun (t3 : Int × Unit) => t3.1) 0 (ma_cons (gm_pur fun st => (ev_k (a := (9 : Int)))) ma_nil) (fun t => rfl)) (ma_cons (gm_take (v := fun (t8 : Int × Unit) => t8.1) 0 (ma_cons (gm_puro fun st => (eo_2 (ev_k (a := (10 : Int))) (ev_k (a := (6 : Int))) (op_pow (10 : Int) (6 : Int)))) ma_nil) (fun t => rfl)) ma_nil)) (fun t => rfl) (fun t => (by exact Nat.le_of_ble_eq_true rfl : 2 < 1000))) (gm_take (v := fun (t16 : Int × Unit) => t16.1) 0 (ma_cons (gm_pur fun st => (ev_k (a := (2 : Int)))) ma_nil) (fun t => rfl)) (fun (a17 : (List Int)) (b18 : Int) => (op_ix a17 b18)))) (fun cents_19 => (bm_sm (sm_set 2 (gm_comp (cc := fun (x26 : Int) => ret true) (gg := fun (x26 : Int) => bnd (bnd (bnd (ret [(2 : Int), (30 : Int)]) fun (a30 : (List Int)) => bnd (bnd (bnd (ret (2 : Int)) fun (a27 : Int) => bnd (ret ()) fun t28 => ret (a27, t28)) fun (t29 : Int × Unit) => takeT t29.1) fun (b31 : Int) => lift (atI a30 b31)) fun (a32 : Int) => bnd (ret ()) fun t33 => ret (a32, t33)) fun (t34 : Int × Unit) => takeT t34.1) (gm_r1 (v := fun (t25 : Int × Unit) => t25.1) (ma_cons (gm_take (v := fun (t22 : Int × Unit) => t22.1) 0 (ma_cons (gm_pur fun st => (ev_k (a := (7 : Int)))) ma_nil) (fun t => rfl)) ma_nil) (fun t => rfl)) (fun st => (.s (.s (.n (.n (.n (.n (.n (.n .nil))))))))) (fun (x26 : Int) st => (tg_n 3)) (fun (x26 : Int) st => (.s (.s (.n (.n (.n (.n (.n (.n .nil))))))))) (fun (x26 : Int) => gm_mY) (fun (x26 : Int) => (gm_take (v := fun (t34 : Int × Unit) => t34.1) 0 (ma_cons (gm_2o (r := fun (a30 : (List Int)) (b31 : Int) => atI a30 b31) (gm_pur fun st => (ev_fL (el_lst (xs := ([(2 : Int), (30 : Int)] : List Int)) (ea_cons (ev_k (a := (2 : Int))) (ea_cons (ev_k (a := (30 : Int))) ea_nil))))) (gm_take (v := fun (t29 : Int × Unit) => t29.1) 0 (ma_cons (gm_pur fun st => (ev_k (a := (2 : Int)))) ma_nil) (fun t => rfl)) (fun (a30 : (List Int)) (b31 : Int) => (op_ix a30 b31))) ma_nil) (fun t => rfl))))) (fun weights_35 => (bm_sm (sm_ss fun st => (ss_set 4 (eo_call (ea_cons (ev_n 1) (ea_cons (ev_n 2) ea_nil)) (r_shared cents_19 weights_35)))) (fun parts_38 => (bm_bind (fun st => (eo_call (ea_cons (ev_n 1) (ea_cons (ev_n 2) ea_nil)) (r__law_shared cents_19 weights_35))) fun v39 h40 => (bm_bind (fun st => (ebo_or (eb_tb (ev_2 (ev_n 4) (h40 st) (op_ne (α := (List Int)) parts_38 v39))) (g_bind (eo_call (ea_cons (ev_n 1) (ea_cons (ev_n 2) (ea_cons (ev_n 4) ea_nil))) (r_shared_fault cents_19 weights_35 parts_38)) fun v41 h42 => (GJ.o (eb_tb (ev_2 h42 (ev_k (a := ())) (op_isnD v41))))))) fun v43 h44 => (bm_ifA (fun st => (h44 st)) (bm_blr fun st => (bl_ret (ev_k (a := false)) (rm st))) (bm_skip (bm_bind (fun st => (ei_r1 (ea_cons (ev_k (a := (4 : Int))) ea_nil))) fun v45 h46 => (bm_seq (ψ := fun (t123 : Unit) st => [some (atS p st), some (.fz (en (cents_19 : Int))), some (.fz (en (weights_35 : (List Int)))), none, some (.fz (en (parts_38 : (List Int)))), none, none, none]) (bm_for (ψs := fun (s47 : Unit) st => [some (atS p st), some (.fz (en (cents_19 : Int))), some (.fz (en (weights_35 : (List Int)))), none, some (.fz (en (parts_38 : (List Int)))), none, none, none]) (body := fun (x48 : Int) (s47 : Unit) => bnd (lift (some parts_38)) fun other_49 => bndF (if (decide ((0 : Int) < (other_49.length : Int))) = true then bnd (bnd (bnd (bnd (ret (other_49.length : Int)) fun (a83 : Int) => bnd (ret ()) fun t84 => ret (a83, t84)) fun (t85 : Int × Unit) => takeT t85.1) fun (a91 : Int) => bnd (bnd (bnd (bnd (ret (other_49.length : Int)) fun (a86 : Int) => bnd (ret ()) fun t87 => ret (a86, t87)) fun (t88 : Int × Unit) => takeT t88.1) fun (a89 : Int) => bnd (ret ()) fun t90 => ret (a89, t90)) fun t92 => ret (a91, t92)) fun y_94 => bnd (lift ((atI other_49 y_94.1).bind fun v95 => putT other_49 y_94.1 (v95 + (1 : Int)))) fun y_97 => bnd (bnd (bnd (lift (atI y_97 y_94.2.1)) fun (a105 : Int) => bnd (bnd (ret [(1 : Int), (1 : Int), (2 : Int)]) fun (a103 : (List Int)) => bnd (bnd (bnd (ret (3 : Int)) fun (a100 : Int) => bnd (ret ()) fun t101 => ret (a100, t101)) fun (t102 : Int × Unit) => takeT t102.1) fun (b104 : Int) => lift (atI a103 b104)) fun (b106 : Int) => ret (a105 - b106)) fun v107 => lift (putT y_97 y_94.2.1 v107)) fun y_108 => bnd (bnd (bnd (bnd (bnd (ret (6 : Int)) fun (a109 : Int) => bnd (ret ()) fun t110 => ret (a109, t110)) fun (t111 : Int × Unit) => takeT t111.1) fun (a112 : Int) => bnd (ret (0 : Int)) fun (b113 : Int) => ret (decide (b113 < a112))) fun b114 => if b114 = true then ret y_108 else ret (VL.cutD y_108 (some (1 : Int)) none)) fun other_115 => ret (.nx other_115) else ret (.nx other_49)) fun t116 => lift ((T_shared_fault cents_19 weights_35 t116).bind fun v117 => (T__law_shared_fault cents_19 weights_35 t116).bind fun v119 => (neDT v117 v119).bind fun v121 => if v121 = true then some (.rt false) else some (.nx ()))) (fun st => (h46 st)) (fun st => (.s (.s (.s (.n (.s (.n (.n (.n .nil))))))))) (fun x48 s47 st => (tg_n 3)) (fun x48 s47 => (bm_sm (sm_ss fun st => (ss_setL 5 (GJ.o (el_cL (ea_cons (ev_n 4) ea_nil) (bi_list _))))) (fun other_49 => (bm_seq (ψ := fun (t116 : (List Int)) st => [some (atS p st), some (.fz (en (cents_19 : Int))), some (.fz (en (weights_35 : (List Int)))), some (.fz (en (x48 : Int))), some (.fz (en (parts_38 : (List Int)))), some (.fz (en (t116 : (List Int)))), none, none]) (bm_if (fun st => (eb_tb (ev_2 (ev_cB (ea_cons (ev_wl 5) ea_nil) (bi_len other_49)) (ev_k (a := (0 : Int))) (op_gt (other_49.length : Int) (0 : Int))))) (bm_sm (sm_par (u := fun t => t.1) (v := fun t => t.2.1) 6 7 (ma_cons (gm_take (v := fun (t85 : Int × Unit) => t85.1) 0 (ma_cons (gm_pur fun st => (ev_cB (ea_cons (ev_wl 5) ea_nil) (bi_len other_49))) ma_nil) (fun t => rfl)) (ma_cons (gm_take (v := fun (t88 : Int × Unit) => t88.1) 0 (ma_cons (gm_pur fun st => (ev_cB (ea_cons (ev_wl 5) ea_nil) (bi_len other_49))) ma_nil) (fun t => rfl)) ma_nil)) (fun t => rfl)) (fun y_94 => (bm_sm (sm_ss fun st => (ss_bind (ev_ixO 5 rfl (ev_n 6)) fun v95 h96 => (ss_putL 5 rfl (ev_n 6) (ev_2 h96 (ev_k (a := (1 : Int))) (op_add v95 (1 : Int)))))) (fun y_97 => (bm_sm (sm_putL 5 (fun st => rfl) (fun st => (ev_n 7)) (gm_2 (r := fun (a105 : Int) (b106 : Int) => (a105 - b106)) (gm_puro fun st => (ev_ixO 5 rfl (ev_n 7))) (gm_2o (r := fun (a103 : (List Int)) (b104 : Int) => atI a103 b104) (gm_pur fun st => (ev_fL (el_lst (xs := ([(1 : Int), (1 : Int), (2 : Int)] : List Int)) (ea_cons (ev_k (a := (1 : Int))) (ea_cons (ev_k (a := (1 : Int))) (ea_cons (ev_k (a := (2 : Int))) ea_nil)))))) (gm_take (v := fun (t102 : Int × Unit) => t102.1) 0 (ma_cons (gm_pur fun st => (ev_k (a := (3 : Int)))) ma_nil) (fun t => rfl)) (fun (a103 : (List Int)) (b104 : Int) => (op_ix a103 b104))) (fun (a105 : Int) (b106 : Int) => (op_sub a105 b106)))) (fun y_108 => (bm_fzL 5 (fun st => rfl) (bm_sml (sm_set 5 (gm_if (gm_tb (gm_2 (r := fun (a112 : Int) (b113 : Int) => (decide (b113 < a112))) (gm_take (v := fun (t111 : Int × Unit) => t111.1) 0 (ma_cons (gm_pur fun st => (ev_k (a := (6 : Int)))) ma_nil) (fun t => rfl)) (gm_pur fun st => (ev_k (a := (0 : Int)))) (fun (a112 : Int) (b113 : Int) => (op_gt a112 b113)))) (gm_pur fun st => (ev_n 5)) (gm_pur fun st => (ev_fL (el_cut (ev_n 5) (es_1 (ev_k (a := (1 : Int)))) es_0))))) (fun other_115 => (bm_blr fun st => (bl_nx (nm st (.s (.s (.s (.s (.s (.s (.n (.n .nil)))))))))))))))))))) (bm_blr fun st => (bl_fzL 5 rfl (bl_nx (nm st (.s (.s (.s (.s (.s (.s (.n (.n .nil))))))))))))) (fun t116 => (bm_bl fun st => (bl_fzF 5 rfl (bl_bind (eo_call (ea_cons (ev_n 1) (ea_cons (ev_n 2) (ea_cons (ev_n 5) ea_nil))) (r_shared_fault cents_19 weights_35 t116)) fun v117 h118 => (bl_bind (eo_call (ea_cons (ev_n 1) (ea_cons (ev_n 2) (ea_cons (ev_n 5) ea_nil))) (r__law_shared_fault cents_19 weights_35 t116)) fun v119 h120 => (bl_bind (eo_2 h118 h120 (op_neD v117 v119)) fun v121 h122 => (bl_if (eb_tb h122) (bl_ret (ev_k (a := false)) (rm st)) (bl_nx (nm st (.s (.s (.s (.n (.s (.n (.n (.n .nil)))))))))))))))))))))) (fun t123 => (bm_blr fun st => (bl_ret (ev_k (a := true)) (rm st))))))))))))))))
def T_law : Dr Bool := ansM (
  bnd (bnd (ret ()) fun (t1 : Unit) => T__law_offer ) fun rows_2 => bnd (bnd (bnd (ret (5 : Int)) fun (a3 : Int) => bnd (ret ()) fun t4 => ret (a3, t4)) fun (t5 : Int × Unit) => takeT t5.1) fun many_6 => bnd (lift (some rows_2)) fun kept_7 => bnd (lift (T_worst rows_2 many_6)) fun told_10 => bnd (lift (some [([] : List Int)])) fun sets_11 => bnd (lift (rngT (rows_2.length : Int))) fun v12 => bndF (lift (loopT (fun (x15 : Int) (s14 : (List (List Int))) => ((compT (fun (x16 : (List Int)) => some (decide ((x16.length : Int) < many_6))) (fun (x16 : (List Int)) => addL x16 [x15]) s14).bind fun v19 => addL s14 v19).bind fun sets_23 => some (.nx sets_23)) v12 sets_11)) fun t24 => bnd (lift ((mapT (fun (x25 : (List Int)) => (mapT (fun (x27 : Int) => (atI rows_2 x27).bind fun v28 => (atI rows_2 x27).bind fun v30 => some (v28.2 - v30.1)) x25).bind fun v32 => some (((List.map (fun (x26 : (Int × Int)) => x26.1) rows_2).sum) + v32.sum)) t24).bind fun v34 => some v34)) fun costs_36 => bnd (lift (if (!true) = true then some true else (maxT costs_36).bind fun v37 => if (!decide (told_10.1 = v37)) = true then some true else (T__law_fault rows_2 many_6 told_10).bind fun v39 => if (!nonD v39) = true then some true else (T_worst_fault rows_2 many_6 told_10).bind fun v41 => some (!nonD v41))) fun v47 => if v47 = true then ret (.rt false) else bnd (lift (rngT (t24.length : Int))) fun v49 => bndF (lift (loopT (fun (x52 : Int) (s51 : Unit) => (atI costs_36 x52).bind fun v53 => (atI t24 x52).bind fun v55 => (T_worst_fault rows_2 many_6 (v53, v55)).bind fun v57 => (atI costs_36 x52).bind fun v59 => (atI t24 x52).bind fun v61 => (T__law_fault rows_2 many_6 (v59, v61)).bind fun v63 => (neDT v57 v63).bind fun v65 => if v65 = true then some (.rt false) else (atI costs_36 x52).bind fun v67 => (atI costs_36 x52).bind fun v69 => (atI t24 x52).bind fun v71 => (T_worst_fault rows_2 many_6 (v69, v71)).bind fun v73 => if (!decide ((decide (v67 = told_10.1)) = (nonD v73))) = true then some (.rt false) else some (.nx ())) v49 ())) fun t75 => bnd (lift (addL told_10.2 [(rows_2.length : Int)])) fun v76 => bndF (lift (loopT (fun (x79 : (Int × (List Int))) (s78 : Unit) => (T_worst_fault rows_2 many_6 x79).bind fun v80 => (T__law_fault rows_2 many_6 x79).bind fun v82 => (neDT v80 v82).bind fun v84 => if v84 = true then some (.rt false) else some (.nx ())) [((told_10.1 + (1 : Int)), told_10.2), (told_10.1, (List.reverse told_10.2)), (told_10.1, v76), (told_10.1, [((0 : Int) - (1 : Int))])] ())) fun t86 => bnd (bnd (ret [rows_2]) fun (a95 : (List (List (Int × Int)))) => bnd (bnd (bnd (bnd (bnd (bnd (ret (4 : Int)) fun (a87 : Int) => bnd (ret ()) fun t88 => ret (a87, t88)) fun (t89 : Int × Unit) => takeT t89.1) fun (a90 : Int) => bnd (ret ()) fun t91 => ret (a90, t91)) fun (t92 : Int × Unit) => lift (rngT t92.1)) fun xs => compDr (fun (x93 : Int) => ret true) (fun (x93 : Int) => bnd (ret ()) fun (t94 : Unit) => T__law_offer ) xs) fun (b96 : (List (List (Int × Int)))) => lift (addL a95 b96)) fun offers_97 => bnd (lift ((mapT (fun (x98 : (List (Int × Int))) => T__law_worst x98 many_6) offers_97).bind fun v101 => some v101)) fun costs_103 => bnd (lift (T_offer offers_97 many_6)) fun v104 => bnd (lift (minT costs_103)) fun v106 => bnd (lift (indexT costs_103 v106)) fun v108 => bnd (lift (minT costs_103)) fun v110 => bnd (lift (if (!decide (v104 = (v108, v110))) = true then some true else (T_regret offers_97 many_6).bind fun v112 => (mapT (fun (x114 : Int) => (minT costs_103).bind fun v115 => some (x114 - v115)) costs_103).bind fun v117 => some (!decide (v112 = v117)))) fun v119 => if v119 = true then ret (.rt false) else bnd (lift (some ([] : List (Int × Int)))) fun due_121 => bnd (lift (maxT (List.map (fun (x122 : (List (Int × Int))) => (x122.length : Int)) offers_97))) fun v123 => bnd (lift (rngT (v123 + (1 : Int)))) fun v125 => bndF (lift (loopT (fun (x128 : Int) (s127 : (List Int) × (List (Int × Int))) => ((mapT (fun (x129 : (List (Int × Int))) => T__law_worst x129 x128) offers_97).bind fun v132 => some v132).bind fun costs_134 => ((minT costs_134).bind fun v135 => indexT costs_134 v135).bind fun best_139 => (if (decide ((s127.2.length : Int) = (0 : Int))) = true then some true else (atI s127.2 (-(1 : Int))).bind fun v140 => some (!decide (v140.2 = best_139))).bind fun v142 => if v142 = true then (apT s127.2 (x128, best_139)).bind fun due_144 => some (.nx (costs_134, due_144)) else some (.nx (costs_134, s127.2))) v125 (costs_103, due_121))) fun t145 => bnd (lift (T_scrap_of [((0 : Int), (0 : Int)), ((0 : Int), (1 : Int))] (3 : Int) (4 : Int))) fun v146 => if (!decide (v146 = ((2 : Int), (10 : Int)))) = true then ret (.rt false) else bnd (bnd (lift ((T_levels offers_97).bind fun v148 => some (decide (v148 = t145.2)))) fun b152 => if b152 = true then bnd (bnd (ret ()) fun (t150 : Unit) => T__law_shares_right ) fun b151 => if b151 = true then ret (decide (rows_2 = kept_7)) else ret false else ret false) fun r153 => ret (.rt r153))
theorem law_typed (h : T_law fun b => b = true) : LawTrue 19 d_law := by
  refine law_of (N := fun _ _ => True) (B := fun _ _ => True) (fun p => ?_) h
  exact (bm_sm (sm_set 2 (gm_I (w := fun (t1 : Unit) => T__law_offer ) 1 ma_nil (fun (t1 : Unit) => r__law_offer ))) (fun rows_2 => (bm_sm (sm_set 3 (gm_take (v := fun (t5 : Int × Unit) => t5.1) 1 (ma_cons (gm_pur fun st => (ev_k (a := (5 : Int)))) ma_nil) (fun t => rfl))) (fun many_6 => (bm_sm (sm_ss fun st => (ss_set 4 (GJ.o (ev_fL (el_cL (ea_cons (ev_n 2) ea_nil) (bi_list _)))))) (fun kept_7 => (bm_sm (sm_ss fun st => (ss_set 5 (eo_call (ea_cons (ev_n 2) (ea_cons (ev_n 3) ea_nil)) (r_worst rows_2 many_6)))) (fun told_10 => (bm_sm (sm_ss fun st => (ss_set 6 (GJ.o (ev_fL (el_lst (xs := ([([] : List Int)] : List (List Int))) (ea_cons (ev_fL (el_lst (xs := ([] : List Int)) ea_nil)) ea_nil)))))) (fun sets_11 => (bm_bind (fun st => (ei_r1 (ea_cons (ev_cB (ea_cons (ev_n 2) ea_nil) (bi_len rows_2)) ea_nil))) fun v12 h13 => (bm_seq (ψ := fun (t24 : (List (List Int))) st => [none, some (atS p st), some (.fz (en (rows_2 : (List (Int × Int))))), some (.fz (en (many_6 : Int))), some (.fz (en (kept_7 : (List (Int × Int))))), some (.fz (en (told_10 : (Int × (List Int))))), some (.fz (en (t24 : (List (List Int))))), none, none, none, none, none, none, none, none, none, none, none, none]) (bm_bl fun st => bl_mono (fun t e h => ⟨st, h⟩) (bl_for (ψs := fun (s14 : (List (List Int))) => [none, some (atS p st), some (.fz (en (rows_2 : (List (Int × Int))))), some (.fz (en (many_6 : Int))), some (.fz (en (kept_7 : (List (Int × Int))))), some (.fz (en (told_10 : (Int × (List Int))))), some (.fz (en (s14 : (List (List Int))))), none, none, none, none, none, none, none, none, none, none, none, none]) (body := fun (x15 : Int) (s14 : (List (List Int))) => ((compT (fun (x16 : (List Int)) => some (decide ((x16.length : Int) < many_6))) (fun (x16 : (List Int)) => addL x16 [x15]) s14).bind fun v19 => addL s14 v19).bind fun sets_23 => some (.nx sets_23)) (h13 st) (.n (.s (.s (.s (.s (.s (.s (.n (.n (.n (.n (.n (.n (.n (.n (.n (.n (.n (.n .nil))))))))))))))))))) (fun x15 s14 => (tg_n 7)) (fun x15 s14 => (bl_ssl (ss_set 6 (g_bind (elo_comp (cc := fun (x16 : (List Int)) => some (decide ((x16.length : Int) < many_6))) (gg := fun (x16 : (List Int)) => addL x16 [x15]) (ei_seq (ev_n 6)) (fun (x16 : (List Int)) => (tg_n 8)) (fun (x16 : (List Int)) => (GJ.o (eb_tb (ev_2 (ev_cB (ea_cons (ev_n 8) ea_nil) (bi_len x16)) (ev_n 3) (op_lt (x16.length : Int) many_6))))) (fun (x16 : (List Int)) => (eo_2 (ev_n 8) (ev_fL (el_lst (xs := ([x15] : List Int)) (ea_cons (ev_n 7) ea_nil))) (op_addL x16 [x15])))) fun v19 h20 => (eo_2 (ev_n 6) (ev_fL h20) (op_addL s14 v19)))) (fun sets_23 => (bl_nx (nf (.n (.s (.s (.s (.s (.s (.s (.n (.n (.n (.n (.n (.n (.n (.n (.n (.n (.n (.n .nil)))))))))))))))))))))))))) (fun t24 => (bm_sm (sm_ss fun st => (ss_set 9 (g_bind (elo_map (gg := fun (x25 : (List Int)) => (mapT (fun (x27 : Int) => (atI rows_2 x27).bind fun v28 => (atI rows_2 x27).bind fun v30 => some (v28.2 - v30.1)) x25).bind fun v32 => some (((List.map (fun (x26 : (Int × Int)) => x26.1) rows_2).sum) + v32.sum)) (ei_seq (ev_n 6)) (fun (x25 : (List Int)) => (tg_n 8)) (fun (x25 : (List Int)) => (g_bind (elo_map (gg := fun (x27 : Int) => (atI rows_2 x27).bind fun v28 => (atI rows_2 x27).bind fun v30 => some (v28.2 - v30.1)) (ei_seq (ev_n 8)) (fun (x27 : Int) => (tg_n 7)) (fun (x27 : Int) => (g_bind (eo_2 (ev_n 2) (ev_n 7) (op_ix rows_2 x27)) fun v28 h29 => (g_bind (eo_2 (ev_n 2) (ev_n 7) (op_ix rows_2 x27)) fun v30 h31 => (GJ.o (ev_2 (ev_2 h29 (ev_k (a := (1 : Int))) (op_21 v28)) (ev_2 h31 (ev_k (a := (0 : Int))) (op_20 v30)) (op_sub v28.2 v30.1))))))) fun v32 h33 => (GJ.o (ev_2 (ev_cB (ea_cons (ev_fL (el_map (gg := fun (x26 : (Int × Int)) => x26.1) (ei_seq (ev_n 2)) (fun (x26 : (Int × Int)) => (tg_2 (tg_n 10) (tg_n 11))) (fun (x26 : (Int × Int)) => (ev_n 10)))) ea_nil) (bi_sum (List.map (fun (x26 : (Int × Int)) => x26.1) rows_2))) (ev_cB (ea_cons (ev_fL h33) ea_nil) (bi_sum v32)) (op_add ((List.map (fun (x26 : (Int × Int)) => x26.1) rows_2).sum) v32.sum)))))) fun v34 h35 => (GJ.o (ev_fL h35))))) (fun costs_36 => (bm_bind (fun st => (ebo_or (eb_not (eb_tr (a := (true : Bool)) (ev_isi (t := true) (ev_n 5) rfl))) (g_bind (eo_cB (ea_cons (ev_n 9) ea_nil) (bi_max costs_36)) fun v37 h38 => (ebo_or (eb_tb (ev_2 (ev_2 (ev_n 5) (ev_k (a := (0 : Int))) (op_20 told_10)) h38 (op_ne (α := Int) told_10.1 v37))) (g_bind (eo_call (ea_cons (ev_n 2) (ea_cons (ev_n 3) (ea_cons (ev_n 5) ea_nil))) (r__law_fault rows_2 many_6 told_10)) fun v39 h40 => (ebo_or (eb_tb (ev_2 h40 (ev_k (a := ())) (op_isnD v39))) (g_bind (eo_call (ea_cons (ev_n 2) (ea_cons (ev_n 3) (ea_cons (ev_n 5) ea_nil))) (r_worst_fault rows_2 many_6 told_10)) fun v41 h42 => (GJ.o (eb_tb (ev_2 h42 (ev_k (a := ())) (op_isnD v41))))))))))) fun v47 h48 => (bm_ifA (fun st => (h48 st)) (bm_blr fun st => (bl_ret (ev_k (a := false)) (rm st))) (bm_skip (bm_bind (fun st => (ei_r1 (ea_cons (ev_cB (ea_cons (ev_n 6) ea_nil) (bi_len t24)) ea_nil))) fun v49 h50 => (bm_seq (ψ := fun (t75 : Unit) st => [none, some (atS p st), some (.fz (en (rows_2 : (List (Int × Int))))), some (.fz (en (many_6 : Int))), some (.fz (en (kept_7 : (List (Int × Int))))), some (.fz (en (told_10 : (Int × (List Int))))), some (.fz (en (t24 : (List (List Int))))), none, none, some (.fz (en (costs_36 : (List Int)))), none, none, none, none, none, none, none, none, none]) (bm_bl fun st => bl_mono (fun t e h => ⟨st, h⟩) (bl_for (ψs := fun (s51 : Unit) => [none, some (atS p st), some (.fz (en (rows_2 : (List (Int × Int))))), some (.fz (en (many_6 : Int))), some (.fz (en (kept_7 : (List (Int × Int))))), some (.fz (en (told_10 : (Int × (List Int))))), some (.fz (en (t24 : (List (List Int))))), none, none, some (.fz (en (costs_36 : (List Int)))), none, none, none, none, none, none, none, none, none]) (body := fun (x52 : Int) (s51 : Unit) => (atI costs_36 x52).bind fun v53 => (atI t24 x52).bind fun v55 => (T_worst_fault rows_2 many_6 (v53, v55)).bind fun v57 => (atI costs_36 x52).bind fun v59 => (atI t24 x52).bind fun v61 => (T__law_fault rows_2 many_6 (v59, v61)).bind fun v63 => (neDT v57 v63).bind fun v65 => if v65 = true then some (.rt false) else (atI costs_36 x52).bind fun v67 => (atI costs_36 x52).bind fun v69 => (atI t24 x52).bind fun v71 => (T_worst_fault rows_2 many_6 (v69, v71)).bind fun v73 => if (!decide ((decide (v67 = told_10.1)) = (nonD v73))) = true then some (.rt false) else some (.nx ())) (h50 st) (.n (.s (.s (.s (.s (.s (.s (.n (.n (.s (.n (.n (.n (.n (.n (.n (.n (.n (.n .nil))))))))))))))))))) (fun x52 s51 => (tg_n 7)) (fun x52 s51 => (bl_bind (eo_2 (ev_n 9) (ev_n 7) (op_ix costs_36 x52)) fun v53 h54 => (bl_bind (eo_2 (ev_n 6) (ev_n 7) (op_ix t24 x52)) fun v55 h56 => (bl_bind (eo_call (ea_cons (ev_n 2) (ea_cons (ev_n 3) (ea_cons (ev_tup (a := ((v53, v55) : (Int × (List Int)))) (ea_cons h54 (ea_cons h56 ea_nil))) ea_nil))) (r_worst_fault rows_2 many_6 (v53, v55))) fun v57 h58 => (bl_bind (eo_2 (ev_n 9) (ev_n 7) (op_ix costs_36 x52)) fun v59 h60 => (bl_bind (eo_2 (ev_n 6) (ev_n 7) (op_ix t24 x52)) fun v61 h62 => (bl_bind (eo_call (ea_cons (ev_n 2) (ea_cons (ev_n 3) (ea_cons (ev_tup (a := ((v59, v61) : (Int × (List Int)))) (ea_cons h60 (ea_cons h62 ea_nil))) ea_nil))) (r__law_fault rows_2 many_6 (v59, v61))) fun v63 h64 => (bl_bind (eo_2 h58 h64 (op_neD v57 v63)) fun v65 h66 => (bl_ifA (eb_tb h66) (bl_ret (ev_k (a := false)) (rm st)) (bl_skip (bl_bind (eo_2 (ev_n 9) (ev_n 7) (op_ix costs_36 x52)) fun v67 h68 => (bl_bind (eo_2 (ev_n 9) (ev_n 7) (op_ix costs_36 x52)) fun v69 h70 => (bl_bind (eo_2 (ev_n 6) (ev_n 7) (op_ix t24 x52)) fun v71 h72 => (bl_bind (eo_call (ea_cons (ev_n 2) (ea_cons (ev_n 3) (ea_cons (ev_tup (a := ((v69, v71) : (Int × (List Int)))) (ea_cons h70 (ea_cons h72 ea_nil))) ea_nil))) (r_worst_fault rows_2 many_6 (v69, v71))) fun v73 h74 => (bl_if (eb_tb (ev_2 (ev_2 h68 (ev_2 (ev_n 5) (ev_k (a := (0 : Int))) (op_20 told_10)) (op_eq (α := Int) v67 told_10.1)) (ev_2 h74 (ev_k (a := ())) (op_isD v73)) (op_ne (α := Bool) (decide (v67 = told_10.1)) (nonD v73)))) (bl_ret (ev_k (a := false)) (rm st)) (bl_nx (nf (.n (.s (.s (.s (.s (.s (.s (.n (.n (.s (.n (.n (.n (.n (.n (.n (.n (.n (.n .nil)))))))))))))))))))))))))))))))))))))) (fun t75 => (bm_bind (fun st => (eo_2 (ev_2 (ev_n 5) (ev_k (a := (1 : Int))) (op_21 told_10)) (ev_fL (el_lst (xs := ([(rows_2.length : Int)] : List Int)) (ea_cons (ev_cB (ea_cons (ev_n 2) ea_nil) (bi_len rows_2)) ea_nil))) (op_addL told_10.2 [(rows_2.length : Int)]))) fun v76 h77 => (bm_seq (ψ := fun (t86 : Unit) st => [none, some (atS p st), some (.fz (en (rows_2 : (List (Int × Int))))), some (.fz (en (many_6 : Int))), some (.fz (en (kept_7 : (List (Int × Int))))), some (.fz (en (told_10 : (Int × (List Int))))), some (.fz (en (t24 : (List (List Int))))), none, none, some (.fz (en (costs_36 : (List Int)))), none, none, none, none, none, none, none, none, none]) (bm_bl fun st => bl_mono (fun t e h => ⟨st, h⟩) (bl_for (ψs := fun (s78 : Unit) => [none, some (atS p st), some (.fz (en (rows_2 : (List (Int × Int))))), some (.fz (en (many_6 : Int))), some (.fz (en (kept_7 : (List (Int × Int))))), some (.fz (en (told_10 : (Int × (List Int))))), some (.fz (en (t24 : (List (List Int))))), none, none, some (.fz (en (costs_36 : (List Int)))), none, none, none, none, none, none, none, none, none]) (body := fun (x79 : (Int × (List Int))) (s78 : Unit) => (T_worst_fault rows_2 many_6 x79).bind fun v80 => (T__law_fault rows_2 many_6 x79).bind fun v82 => (neDT v80 v82).bind fun v84 => if v84 = true then some (.rt false) else some (.nx ())) (ei_seq (ev_fL (el_lst (xs := ([((told_10.1 + (1 : Int)), told_10.2), (told_10.1, (List.reverse told_10.2)), (told_10.1, v76), (told_10.1, [((0 : Int) - (1 : Int))])] : List (Int × (List Int)))) (ea_cons (ev_tup (a := (((told_10.1 + (1 : Int)), told_10.2) : (Int × (List Int)))) (ea_cons (ev_2 (ev_2 (ev_n 5) (ev_k (a := (0 : Int))) (op_20 told_10)) (ev_k (a := (1 : Int))) (op_add told_10.1 (1 : Int))) (ea_cons (ev_2 (ev_n 5) (ev_k (a := (1 : Int))) (op_21 told_10)) ea_nil))) (ea_cons (ev_tup (a := ((told_10.1, (List.reverse told_10.2)) : (Int × (List Int)))) (ea_cons (ev_2 (ev_n 5) (ev_k (a := (0 : Int))) (op_20 told_10)) (ea_cons (ev_fL (el_rev (ev_2 (ev_n 5) (ev_k (a := (1 : Int))) (op_21 told_10)))) ea_nil))) (ea_cons (ev_tup (a := ((told_10.1, v76) : (Int × (List Int)))) (ea_cons (ev_2 (ev_n 5) (ev_k (a := (0 : Int))) (op_20 told_10)) (ea_cons (h77 st) ea_nil))) (ea_cons (ev_tup (a := ((told_10.1, [((0 : Int) - (1 : Int))]) : (Int × (List Int)))) (ea_cons (ev_2 (ev_n 5) (ev_k (a := (0 : Int))) (op_20 told_10)) (ea_cons (ev_fL (el_lst (xs := ([((0 : Int) - (1 : Int))] : List Int)) (ea_cons (ev_2 (ev_k (a := (0 : Int))) (ev_k (a := (1 : Int))) (op_sub (0 : Int) (1 : Int))) ea_nil))) ea_nil))) ea_nil))))))) (.n (.s (.s (.s (.s (.s (.s (.n (.n (.s (.n (.n (.n (.n (.n (.n (.n (.n (.n .nil))))))))))))))))))) (fun x79 s78 => (tg_n 12)) (fun x79 s78 => (bl_bind (eo_call (ea_cons (ev_n 2) (ea_cons (ev_n 3) (ea_cons (ev_n 12) ea_nil))) (r_worst_fault rows_2 many_6 x79)) fun v80 h81 => (bl_bind (eo_call (ea_cons (ev_n 2) (ea_cons (ev_n 3) (ea_cons (ev_n 12) ea_nil))) (r__law_fault rows_2 many_6 x79)) fun v82 h83 => (bl_bind (eo_2 h81 h83 (op_neD v80 v82)) fun v84 h85 => (bl_if (eb_tb h85) (bl_ret (ev_k (a := false)) (rm st)) (bl_nx (nf (.n (.s (.s (.s (.s (.s (.s (.n (.n (.s (.n (.n (.n (.n (.n (.n (.n (.n (.n .nil)))))))))))))))))))))))))))) (fun t86 => (bm_sm (sm_set 13 (gm_2o (r := fun (a95 : (List (List (Int × Int)))) (b96 : (List (List (Int × Int)))) => addL a95 b96) (gm_pur fun st => (ev_fL (el_lst (xs := ([rows_2] : List (List (Int × Int)))) (ea_cons (ev_n 2) ea_nil)))) (gm_comp (cc := fun (x93 : Int) => ret true) (gg := fun (x93 : Int) => bnd (ret ()) fun (t94 : Unit) => T__law_offer ) (gm_r1 (v := fun (t92 : Int × Unit) => t92.1) (ma_cons (gm_take (v := fun (t89 : Int × Unit) => t89.1) 1 (ma_cons (gm_pur fun st => (ev_k (a := (4 : Int)))) ma_nil) (fun t => rfl)) ma_nil) (fun t => rfl)) (fun st => (.n (.s (.s (.s (.s (.s (.s (.n (.n (.s (.n (.n (.n (.n (.n (.n (.n (.n (.n .nil)))))))))))))))))))) (fun (x93 : Int) st => (tg_n 7)) (fun (x93 : Int) st => (.n (.s (.s (.s (.s (.s (.s (.n (.n (.s (.n (.n (.n (.n (.n (.n (.n (.n (.n .nil)))))))))))))))))))) (fun (x93 : Int) => gm_mY) (fun (x93 : Int) => (gm_I (w := fun (t94 : Unit) => T__law_offer ) 1 ma_nil (fun (t94 : Unit) => r__law_offer )))) (fun (a95 : (List (List (Int × Int)))) (b96 : (List (List (Int × Int)))) => (op_addL a95 b96)))) (fun offers_97 => (bm_sm (sm_ss fun st => (ss_set 9 (g_bind (elo_map (gg := fun (x98 : (List (Int × Int))) => T__law_worst x98 many_6) (ei_seq (ev_n 13)) (fun (x98 : (List (Int × Int))) => (tg_n 14)) (fun (x98 : (List (Int × Int))) => (eo_call (ea_cons (ev_n 14) (ea_cons (ev_n 3) ea_nil)) (r__law_worst x98 many_6)))) fun v101 h102 => (GJ.o (ev_fL h102))))) (fun costs_103 => (bm_bind (fun st => (eo_call (ea_cons (ev_n 13) (ea_cons (ev_n 3) ea_nil)) (r_offer offers_97 many_6))) fun v104 h105 => (bm_bind (fun st => (eo_cB (ea_cons (ev_n 9) ea_nil) (bi_min costs_103))) fun v106 h107 => (bm_bind (fun st => (eo_2 (ev_n 9) (h107 st) (op_index costs_103 v106))) fun v108 h109 => (bm_bind (fun st => (eo_cB (ea_cons (ev_n 9) ea_nil) (bi_min costs_103))) fun v110 h111 => (bm_bind (fun st => (ebo_or (eb_tb (ev_2 (h105 st) (ev_tup (a := ((v108, v110) : (Int × Int))) (ea_cons (h109 st) (ea_cons (h111 st) ea_nil))) (op_ne (α := (Int × Int)) v104 (v108, v110)))) (g_bind (eo_call (ea_cons (ev_n 13) (ea_cons (ev_n 3) ea_nil)) (r_regret offers_97 many_6)) fun v112 h113 => (g_bind (elo_map (gg := fun (x114 : Int) => (minT costs_103).bind fun v115 => some (x114 - v115)) (ei_seq (ev_n 9)) (fun (x114 : Int) => (tg_n 15)) (fun (x114 : Int) => (g_bind (eo_cB (ea_cons (ev_n 9) ea_nil) (bi_min costs_103)) fun v115 h116 => (GJ.o (ev_2 (ev_n 15) h116 (op_sub x114 v115)))))) fun v117 h118 => (GJ.o (eb_tb (ev_2 h113 (ev_fL h118) (op_ne (α := (List Int)) v112 v117)))))))) fun v119 h120 => (bm_ifA (fun st => (h120 st)) (bm_blr fun st => (bl_ret (ev_k (a := false)) (rm st))) (bm_skip (bm_sm (sm_ss fun st => (ss_setL 16 (GJ.o (el_lst (xs := ([] : List (Int × Int))) ea_nil)))) (fun due_121 => (bm_bind (fun st => (eo_cB (ea_cons (ev_fL (el_map (gg := fun (x122 : (List (Int × Int))) => (x122.length : Int)) (ei_seq (ev_n 13)) (fun (x122 : (List (Int × Int))) => (tg_n 14)) (fun (x122 : (List (Int × Int))) => (ev_cB (ea_cons (ev_n 14) ea_nil) (bi_len x122))))) ea_nil) (bi_max (List.map (fun (x122 : (List (Int × Int))) => (x122.length : Int)) offers_97)))) fun v123 h124 => (bm_bind (fun st => (ei_r1 (ea_cons (ev_2 (h124 st) (ev_k (a := (1 : Int))) (op_add v123 (1 : Int))) ea_nil))) fun v125 h126 => (bm_seq (ψ := fun (t145 : (List Int) × (List (Int × Int))) st => [none, some (atS p st), some (.fz (en (rows_2 : (List (Int × Int))))), some (.fz (en (many_6 : Int))), some (.fz (en (kept_7 : (List (Int × Int))))), some (.fz (en (told_10 : (Int × (List Int))))), some (.fz (en (t24 : (List (List Int))))), none, none, some (.fz (en (t145.1 : (List Int)))), none, none, none, some (.fz (en (offers_97 : (List (List (Int × Int)))))), none, none, some (olE (t145.2 : (List (Int × Int)))), none, none]) (bm_bl fun st => bl_mono (fun t e h => ⟨st, h⟩) (bl_for (ψs := fun (s127 : (List Int) × (List (Int × Int))) => [none, some (atS p st), some (.fz (en (rows_2 : (List (Int × Int))))), some (.fz (en (many_6 : Int))), some (.fz (en (kept_7 : (List (Int × Int))))), some (.fz (en (told_10 : (Int × (List Int))))), some (.fz (en (t24 : (List (List Int))))), none, none, some (.fz (en (s127.1 : (List Int)))), none, none, none, some (.fz (en (offers_97 : (List (List (Int × Int)))))), none, none, some (olE (s127.2 : (List (Int × Int)))), none, none]) (body := fun (x128 : Int) (s127 : (List Int) × (List (Int × Int))) => ((mapT (fun (x129 : (List (Int × Int))) => T__law_worst x129 x128) offers_97).bind fun v132 => some v132).bind fun costs_134 => ((minT costs_134).bind fun v135 => indexT costs_134 v135).bind fun best_139 => (if (decide ((s127.2.length : Int) = (0 : Int))) = true then some true else (atI s127.2 (-(1 : Int))).bind fun v140 => some (!decide (v140.2 = best_139))).bind fun v142 => if v142 = true then (apT s127.2 (x128, best_139)).bind fun due_144 => some (.nx (costs_134, due_144)) else some (.nx (costs_134, s127.2))) (h126 st) (.n (.s (.s (.s (.s (.s (.s (.n (.n (.s (.n (.n (.n (.s (.n (.n (.s (.n (.n .nil))))))))))))))))))) (fun x128 s127 => (tg_n 17)) (fun x128 s127 => (bl_ss (ss_set 9 (g_bind (elo_map (gg := fun (x129 : (List (Int × Int))) => T__law_worst x129 x128) (ei_seq (ev_n 13)) (fun (x129 : (List (Int × Int))) => (tg_n 14)) (fun (x129 : (List (Int × Int))) => (eo_call (ea_cons (ev_n 14) (ea_cons (ev_n 17) ea_nil)) (r__law_worst x129 x128)))) fun v132 h133 => (GJ.o (ev_fL h133)))) (fun costs_134 => (bl_ss (ss_set 18 (g_bind (eo_cB (ea_cons (ev_n 9) ea_nil) (bi_min costs_134)) fun v135 h136 => (eo_2 (ev_n 9) h136 (op_index costs_134 v135)))) (fun best_139 => (bl_bind (ebo_or (eb_tb (ev_2 (ev_cB (ea_cons (ev_wl 16) ea_nil) (bi_len s127.2)) (ev_k (a := (0 : Int))) (op_eq (α := Int) (s127.2.length : Int) (0 : Int)))) (g_bind (eo_2 (ev_wl 16) (ev_neg (ev_k (a := (1 : Int)))) (op_ix s127.2 (-(1 : Int)))) fun v140 h141 => (GJ.o (eb_tb (ev_2 (ev_2 h141 (ev_k (a := (1 : Int))) (op_21 v140)) (ev_n 18) (op_ne (α := Int) v140.2 best_139)))))) fun v142 h143 => (bl_if h143 (bl_ssl (ss_app 16 rfl (ev_tup (a := ((x128, best_139) : (Int × Int))) (ea_cons (ev_n 17) (ea_cons (ev_n 18) ea_nil)))) (fun due_144 => (bl_nx (nf (.n (.s (.s (.s (.s (.s (.s (.n (.n (.s (.n (.n (.n (.s (.n (.n (.s (.n (.n .nil))))))))))))))))))))))) (bl_nx (nf (.n (.s (.s (.s (.s (.s (.s (.n (.n (.s (.n (.n (.n (.s (.n (.n (.s (.n (.n .nil)))))))))))))))))))))))))))))) (fun t145 => (bm_bind (fun st => (eo_call (ea_cons (ev_fL (el_lst (xs := ([((0 : Int), (0 : Int)), ((0 : Int), (1 : Int))] : List (Int × Int))) (ea_cons (ev_tup (a := (((0 : Int), (0 : Int)) : (Int × Int))) (ea_cons (ev_k (a := (0 : Int))) (ea_cons (ev_k (a := (0 : Int))) ea_nil))) (ea_cons (ev_tup (a := (((0 : Int), (1 : Int)) : (Int × Int))) (ea_cons (ev_k (a := (0 : Int))) (ea_cons (ev_k (a := (1 : Int))) ea_nil))) ea_nil)))) (ea_cons (ev_k (a := (3 : Int))) (ea_cons (ev_k (a := (4 : Int))) ea_nil))) (r_scrap_of [((0 : Int), (0 : Int)), ((0 : Int), (1 : Int))] (3 : Int) (4 : Int)))) fun v146 h147 => (bm_ifA (fun st => (eb_tb (ev_2 (h147 st) (ev_tup (a := (((2 : Int), (10 : Int)) : (Int × Int))) (ea_cons (ev_k (a := (2 : Int))) (ea_cons (ev_k (a := (10 : Int))) ea_nil))) (op_ne (α := (Int × Int)) v146 ((2 : Int), (10 : Int)))))) (bm_blr fun st => (bl_ret (ev_k (a := false)) (rm st))) (bm_skip (bm_ret (r := fun r => r) (gm_and2 (gm_puro fun st => (g_bind (eo_call (ea_cons (ev_n 13) ea_nil) (ol_ret (r_levels offers_97))) fun v148 h149 => (GJ.o (ev_2 h149 (ev_wl 16) (op_eq (α := (List (Int × Int))) v148 t145.2))))) (gm_and2 (gm_I (w := fun (t150 : Unit) => T__law_shares_right ) 1 ma_nil (fun (t150 : Unit) => r__law_shares_right )) (gm_pur fun st => (ev_2 (ev_n 2) (ev_n 4) (op_eq (α := (List (Int × Int))) rows_2 kept_7))))) (fun v st => (rm st)))))))))))))))))))))))))))))))))))))))))))))))
end Law

set_option Elab.async false
set_option linter.all false
set_option maxRecDepth 100000
/-! K71a: the faults of a worst case: both readings alike. -/
namespace Law
open PySem PyProof.Rows L2 VL TL
open Ty (en)
/-- what a row can come dearer -/
def gn (rows : List (Int × Int)) (k : Int) : Int := match rows[k.toNat]? with
  | some p => p.2 - p.1
  | none => 0
theorem gn_at {rows : List (Int × Int)} {k : Int} (h : 0 ≤ k) (h' : k < rows.length) : ∃ p, atI rows k = some p ∧ gn rows k = p.2 - p.1 ∧ p ∈ rows := by
  obtain ⟨p, e1, e2⟩ := atI_ok h h'
  exact ⟨p, e1, by unfold gn; rw [e2], List.mem_of_getElem? e2⟩
theorem min_ex : ∀ {xs : List Int}, xs ≠ [] → ∃ m, m ∈ xs ∧ ∀ x ∈ xs, m ≤ x
  | [x], _ => ⟨x, by simp, by simp⟩
  | x :: y :: xs, _ => by
    obtain ⟨m, h1, h2⟩ := min_ex (xs := y :: xs) (by simp)
    by_cases c : x ≤ m
    · exact ⟨x, by simp, fun z hz => (List.mem_cons.mp hz).elim (fun e => by omega) fun hz => by have := h2 z hz; omega⟩
    · exact ⟨m, List.mem_cons_of_mem _ h1, fun z hz => (List.mem_cons.mp hz).elim (fun e => by omega) fun hz => h2 z hz⟩
theorem minT_ex {xs : List Int} (h : xs ≠ []) : ∃ m, minT xs = some m ∧ m ∈ xs ∧ ∀ x ∈ xs, m ≤ x := by
  obtain ⟨m, h1, h2⟩ := min_ex h
  exact ⟨m, minT_int h1 h2, h1, h2⟩
/-- the bound below which nothing that is left out may lie -/
def lst (rows : List (Int × Int)) (many : Int) (c : List Int) : Int := if (c.length : Int) = many then (minT (c.map (gn rows))).getD 0 else 0
def sumG (rows : List (Int × Int)) (c : List Int) : Int := (rows.map (·.1)).sum + (c.map (gn rows)).sum
def faultF (rows : List (Int × Int)) (many : Int) (told : Int × List Int) : D :=
  if told.2 ≠ sortT (ddup told.2) ∨ (∃ k ∈ told.2, ¬ (0 ≤ k ∧ k < rows.length)) ∨ many < told.2.length then .tup [en ("chosen" : Str)]
  else if sumG rows told.2 ≠ told.1 then .tup [en ("cost" : Str)]
  else if many = 0 then .non
  else ((rangeT 0 (rows.length : Int)).findSome? fun k => if k ∉ told.2 ∧ lst rows many told.2 < gn rows k then some (.tup [en ("dearer" : Str), en k] : D) else none).getD .non
theorem map_gn {rows : List (Int × Int)} {c : List Int} (h : ∀ k ∈ c, 0 ≤ k ∧ k < rows.length) :
    mapT (fun (k : Int) => (atI rows k).bind fun a => (atI rows k).bind fun b => some (a.2 - b.1)) c = some (c.map (gn rows)) :=
  mapT_some fun k m => by
    obtain ⟨p, e1, e2, _⟩ := gn_at (h k m).1 (h k m).2
    rw [e1, Option.bind_some, Option.bind_some, e2]
theorem nbad {rows : List (Int × Int)} {many : Int} {c : List Int} (h : ¬ (c ≠ sortT (ddup c) ∨ (∃ k ∈ c, ¬ (0 ≤ k ∧ k < (rows.length : Int))) ∨ many < (c.length : Int))) :
    c = sortT (ddup c) ∧ (∀ k ∈ c, 0 ≤ k ∧ k < (rows.length : Int)) ∧ (c.length : Int) ≤ many := by
  refine ⟨Decidable.byContradiction fun q => h (.inl q), fun k m => Decidable.byContradiction fun q => h (.inr (.inl ⟨k, m, q⟩)), Int.not_lt.mp fun q => h (.inr (.inr q))⟩
theorem out_iff {n : Int} {c : List Int} : (0 : Int) < ((List.map (fun (x5 : Int) => x5) (List.filter (fun (x5 : Int) => (!((decide ((0 : Int) ≤ x5)) && (decide (x5 < n))))) c)).length : Int) ↔ ∃ k ∈ c, ¬ (0 ≤ k ∧ k < n) := by
  rw [List.length_map]
  constructor
  · intro h
    have : 0 < (List.filter (fun (x5 : Int) => (!((decide ((0 : Int) ≤ x5)) && (decide (x5 < n))))) c).length := by omega
    obtain ⟨k, m⟩ := List.exists_mem_of_length_pos this
    obtain ⟨m1, m2⟩ := List.mem_filter.mp m
    refine ⟨k, m1, fun q => ?_⟩
    simp [q.1, q.2] at m2
  · rintro ⟨k, m, q⟩
    have : k ∈ List.filter (fun (x5 : Int) => (!((decide ((0 : Int) ≤ x5)) && (decide (x5 < n))))) c := List.mem_filter.mpr ⟨m, by
      simp only [Bool.not_eq_true', Bool.and_eq_false_iff, decide_eq_false_iff_not]
      exact Decidable.not_and_iff_or_not.mp q⟩
    have := List.length_pos_of_mem this
    omega
theorem in_iff {n : Int} {c : List Int} : (!((List.map (fun (x5 : Int) => ((decide ((0 : Int) ≤ x5)) && (decide (x5 < n)))) c).all id)) = true ↔ ∃ k ∈ c, ¬ (0 ≤ k ∧ k < n) := by
  rw [Bool.not_eq_true', Bool.eq_false_iff, Ne, List.all_eq_true]
  constructor
  · intro h
    refine Decidable.byContradiction fun q => h fun x m => ?_
    obtain ⟨k, m', rfl⟩ := List.mem_map.mp m
    have : 0 ≤ k ∧ k < n := Decidable.byContradiction fun z => q ⟨k, m', z⟩
    simp [this.1, this.2]
  · rintro ⟨k, m, q⟩ h
    have := h _ (List.mem_map.mpr ⟨k, m, rfl⟩)
    simp only [id, Bool.and_eq_true, decide_eq_true_eq] at this
    exact q this
theorem findSome_map {α β γ : Type} {f : α → β} {r1 : α → Option γ} {r2 : β → Option γ} : ∀ {xs : List α}, (∀ x ∈ xs, r1 x = r2 (f x)) → xs.findSome? r1 = (xs.map f).findSome? r2
  | [], _ => rfl
  | x :: xs, h => by
    rw [List.map_cons, List.findSome?_cons, List.findSome?_cons, h x (List.mem_cons_self ..), findSome_map fun y m => h y (List.mem_cons_of_mem _ m)]
theorem law_fault_eq {rows : List (Int × Int)} {many : Int} {told : Int × List Int} (hr : rows.length ≤ 1000) (hm : 0 ≤ many) (hc : told.2.length < 64) : T__law_fault rows many told = some (faultF rows many told) := by
  obtain ⟨cost, c⟩ := told
  unfold T__law_fault faultF
  rw [Option.bind_some]
  dsimp only at hc ⊢
  unfold setT
  rw [if_pos hc, Option.bind_some]
  by_cases h1 : c ≠ sortT (ddup c) ∨ (∃ k ∈ c, ¬ (0 ≤ k ∧ k < (rows.length : Int))) ∨ many < (c.length : Int)
  · rw [if_pos h1, if_pos]
    · rfl
    · simp only [Bool.or_eq_true, Bool.not_eq_true', decide_eq_false_iff_not, decide_eq_true_eq, out_iff]
      exact h1.imp id id
  · rw [if_neg h1, if_neg]
    · obtain ⟨h2, h3, h4⟩ := nbad h1
      rw [map_gn h3, Option.bind_some]
      by_cases h5 : sumG rows c ≠ cost
      · rw [if_pos h5, if_pos (by simpa [sumG] using h5)]; rfl
      · rw [if_neg h5, if_neg (by simpa [sumG] using h5)]
        by_cases h6 : many = 0
        · rw [if_pos h6, if_pos (by simpa using h6)]; rfl
        · rw [if_neg h6, if_neg (by simpa using h6)]
          have el : (if (decide ((c.length : Int) = many)) = true then (mapT (fun (k : Int) => (atI rows k).bind fun a => (atI rows k).bind fun b => some (a.2 - b.1)) c).bind fun v19 => minT v19 else some (0 : Int)) = some (lst rows many c) := by
            unfold lst
            by_cases h7 : (c.length : Int) = many
            · rw [if_pos (decide_eq_true h7), if_pos h7, map_gn h3, Option.bind_some]
              have : c.map (gn rows) ≠ [] := by
                intro q
                have := List.map_eq_nil_iff.mp q
                subst this
                exact h6 (by simpa using h7.symm)
              obtain ⟨m, e, _⟩ := minT_ex this
              rw [e]; rfl
            · rw [if_neg (by simpa using h7), if_neg h7]
          rw [map_gn h3] at el
          rw [el, Option.bind_some, rngT_ok (by omega), Option.bind_some]
          rw [loopT_find (r := fun k => if k ∉ c ∧ lst rows many c < gn rows k then some (.tup [en ("dearer" : Str), en k] : D) else none)]
          · exact found_ans rfl
          · intro k m
            have hk : 0 ≤ k ∧ k < (rows.length : Int) := by
              have := m
              rw [rangeT_nat] at this
              obtain ⟨j, hj, rfl⟩ := List.mem_map.mp this
              have := List.mem_range.mp hj
              omega
            obtain ⟨p, e1, e2, _⟩ := gn_at hk.1 hk.2
            by_cases q1 : k ∈ c
            · rw [if_neg (by simp [q1]), Option.bind_some, if_neg (by simp), if_neg (by simp [q1])]; rfl
            · rw [if_pos (by simp [q1]), e1, Option.bind_some, Option.bind_some, Option.bind_some, ← e2]
              by_cases q2 : lst rows many c < gn rows k
              · rw [if_pos (decide_eq_true q2), if_pos ⟨q1, q2⟩]; rfl
              · rw [if_neg (by simpa using q2), if_neg fun z => q2 z.2]; rfl
    · simp only [Bool.or_eq_true, Bool.not_eq_true', decide_eq_false_iff_not, decide_eq_true_eq, out_iff]
      exact h1
theorem worst_fault_eq {rows : List (Int × Int)} {many : Int} {told : Int × List Int} (hr : rows.length ≤ 1000) (hm : 0 ≤ many) (hc : told.2.length < 64) : T_worst_fault rows many told = some (faultF rows many told) := by
  obtain ⟨cost, c⟩ := told
  unfold T_worst_fault faultF
  rw [Option.bind_some]
  dsimp only at hc ⊢
  unfold setT
  rw [if_pos hc, Option.bind_some]
  by_cases h1 : c ≠ sortT (ddup c) ∨ (∃ k ∈ c, ¬ (0 ≤ k ∧ k < (rows.length : Int))) ∨ many < (c.length : Int)
  · rw [if_pos h1, if_pos]
    · rfl
    · simp only [Bool.or_eq_true, in_iff, decide_eq_true_eq]
      simp only [Bool.not_eq_true', decide_eq_false_iff_not]
      exact h1.imp id id
  · rw [if_neg h1, if_neg]
    · obtain ⟨h2, h3, h4⟩ := nbad h1
      rw [map_gn h3, Option.bind_some, Option.bind_some]
      by_cases h5 : sumG rows c ≠ cost
      · rw [if_pos h5, if_pos (by simpa [sumG] using h5)]; rfl
      · rw [if_neg h5, if_neg (by simpa [sumG] using h5)]
        by_cases h6 : many = 0
        · rw [if_pos h6, if_pos (by simpa using h6)]; rfl
        · rw [if_neg h6, if_neg (by simpa using h6)]
          have el : (if (decide ((c.length : Int) = many)) = true then (mapT (fun (k : Int) => (atI rows k).bind fun a => (atI rows k).bind fun b => some (a.2 - b.1)) c).bind fun v19 => minDfT v19 (0 : Int) else some (0 : Int)) = some (lst rows many c) := by
            unfold lst
            by_cases h7 : (c.length : Int) = many
            · rw [if_pos (decide_eq_true h7), if_pos h7, map_gn h3, Option.bind_some]
              have : c.map (gn rows) ≠ [] := by
                intro q
                have := List.map_eq_nil_iff.mp q
                subst this
                exact h6 (by simpa using h7.symm)
              obtain ⟨m, e, _⟩ := minT_ex this
              unfold minDfT
              rw [if_neg (by simpa using this), e]; rfl
            · rw [if_neg (by simpa using h7), if_neg h7]
          rw [map_gn h3] at el
          rw [el, Option.bind_some]
          rw [loopT_find (r := fun (p : Int × (Int × Int)) => if p.1 ∉ c ∧ lst rows many c < gn rows p.1 then some (.tup [en ("dearer" : Str), en p.1] : D) else none)]
          · rw [findSome_map (f := fun p : Int × (Int × Int) => p.1) (r2 := fun k => if k ∉ c ∧ lst rows many c < gn rows k then some (.tup [en ("dearer" : Str), en k] : D) else none) fun p _ => rfl, enumT_fst]
            exact found_ans rfl
          · intro p m
            have hp := enumT_mem.mp m
            have e2 : gn rows p.1 = p.2.2 - p.2.1 := by unfold gn; rw [hp.2]
            rw [← e2]
            by_cases q1 : p.1 ∈ c
            · rw [if_neg (by simp [q1]), if_neg (by simp [q1])]; rfl
            · by_cases q2 : lst rows many c < gn rows p.1
              · rw [if_pos (by simp [q1, q2]), if_pos ⟨q1, q2⟩]; rfl
              · rw [if_neg (by simp [q2]), if_neg fun z => q2 z.2]; rfl
    · simp only [Bool.or_eq_true, in_iff, decide_eq_true_eq]
      simp only [Bool.not_eq_true', decide_eq_false_iff_not]
      exact h1
end Law

set_option Elab.async false
set_option linter.all false
set_option maxRecDepth 100000
/-! K71b: what worst tells. -/
namespace Law
open PySem PyProof.Rows L2 VL TL
open Ty (en)
theorem ddup_nodup {α : Type} [DecidableEq α] : ∀ {xs : List α}, xs.Nodup → ddup xs = xs
  | [], _ => rfl
  | x :: xs, h => by
    obtain ⟨h1, h2⟩ := List.nodup_cons.mp h
    show (if x ∈ xs then ddup xs else x :: ddup xs) = _
    rw [if_neg h1, ddup_nodup h2]
theorem leT_int (a b : Int) : leT a b = true ↔ a ≤ b := by
  show (!decide (b < a)) = true ↔ _
  rw [Bool.not_eq_true', decide_eq_false_iff_not]
  omega
theorem sortT_id {xs : List Int} (h : xs.Pairwise (· ≤ ·)) : sortT xs = xs := List.mergeSort_of_pairwise (h.imp fun {a b} q => (leT_int a b).mpr q)
theorem sortT_le (xs : List Int) : (sortT xs).Pairwise (· ≤ ·) := (sortT_sorted xs).imp fun {a b} q => (leT_int a b).mp q
theorem sort_ddup {xs : List Int} (h : xs.Nodup) : sortT xs = sortT (ddup (sortT xs)) := by
  rw [ddup_nodup ((sortT_perm xs).nodup_iff.mpr h), sortT_id (sortT_le xs)]
theorem leT_fst {a b : Int × Int} (h : leT a b = true) : a.1 ≤ b.1 := by
  have h' : (!(if b.1 = a.1 then (if b.2 = a.2 then false else decide (b.2 < a.2)) else decide (b.1 < a.1))) = true := h
  by_cases c : b.1 = a.1
  · omega
  · rw [if_neg c] at h'
    simp only [Bool.not_eq_true', decide_eq_false_iff_not] at h'
    omega
theorem worst_ok {rows : List (Int × Int)} {many : Int} (hr : rows.length ≤ 1000) (hm : 0 ≤ many) : ∃ c, T_worst rows many = some (sumG rows c, c) ∧ c = sortT (ddup c) ∧ (∀ k ∈ c, 0 ≤ k ∧ k < (rows.length : Int)) ∧ (c.length : Int) ≤ many ∧ c.length ≤ rows.length ∧
    ∀ k : Int, 0 ≤ k → k < rows.length → k ∉ c → ((c.length : Int) = many ∧ ∀ j ∈ c, gn rows k ≤ gn rows j) ∨ gn rows k ≤ 0 := by
  unfold T_worst
  generalize hL : List.map (fun (x1 : (Int × (Int × Int))) => ((x1.2.1 - x1.2.2), x1.1)) (enumT rows) = L
  have hlen : L.length = rows.length := by rw [← hL, List.length_map, enumT_len]
  have hmem : ∀ p : Int × Int, p ∈ L ↔ 0 ≤ p.2 ∧ p.2 < (rows.length : Int) ∧ p.1 = - gn rows p.2 := by
    intro p
    rw [← hL]
    constructor
    · intro m
      obtain ⟨q, m', rfl⟩ := List.mem_map.mp m
      obtain ⟨h1, h2⟩ := enumT_mem.mp m'
      have h3 := (List.getElem?_eq_some_iff.mp h2).1
      refine ⟨h1, by show q.1 < _; omega, ?_⟩
      show q.2.1 - q.2.2 = - gn rows q.1
      unfold gn
      rw [h2]; show _ = -(q.2.2 - q.2.1); omega
    · rintro ⟨h1, h2, h3⟩
      obtain ⟨x, e1, e2⟩ := atI_ok h1 h2
      refine List.mem_map.mpr ⟨(p.2, x), enumT_mem.mpr ⟨h1, e2⟩, ?_⟩
      unfold gn at h3
      rw [e2] at h3
      refine Prod.ext ?_ rfl
      show x.1 - x.2 = p.1
      rw [h3]; show _ = -(x.2 - x.1); omega
  have hnd : (L.map (·.2)).Nodup := by
    rw [← hL, List.map_map]
    have := enumT_fst rows
    rw [show (List.map ((fun x : Int × Int => x.2) ∘ fun (x1 : (Int × (Int × Int))) => ((x1.2.1 - x1.2.2), x1.1)) (enumT rows)) = (enumT rows).map (·.1) from rfl, this]
    exact rangeT_nodup _ _
  rw [sortO_ok (by omega), Option.bind_some, Option.bind_some, cut_to _ hm]
  have pG := sortT_perm L
  have sG := sortT_sorted L
  generalize hG : sortT L = G at pG sG
  have hA : ∀ x ∈ G.take many.toNat, ∀ y ∈ G.drop many.toNat, x.1 ≤ y.1 := fun x hx y hy => by
    rw [← List.take_append_drop many.toNat G] at sG
    exact leT_fst ((List.pairwise_append.mp sG).2.2 x hx y hy)
  generalize hK : List.map (fun (x5 : (Int × Int)) => x5.2) (List.filter (fun (x5 : (Int × Int)) => (decide (x5.1 < (0 : Int)))) (List.take many.toNat G)) = K
  have sub : K.Sublist (G.map (·.2)) := by
    rw [← hK]
    exact ((List.filter_sublist).trans (List.take_sublist _ _)).map _
  have ndK : K.Nodup := sub.nodup ((pG.map (·.2)).nodup_iff.mpr hnd)
  have memK : ∀ k, k ∈ K ↔ ((- gn rows k, k) ∈ G.take many.toNat ∧ 0 < gn rows k) := by
    intro k
    rw [← hK]
    constructor
    · intro m
      obtain ⟨p, m', rfl⟩ := List.mem_map.mp m
      obtain ⟨m1, m2⟩ := List.mem_filter.mp m'
      have := ((hmem p).mp (pG.mem_iff.mp (List.mem_of_mem_take m1))).2.2
      have e : p = (- gn rows p.2, p.2) := Prod.ext this rfl
      have m2 := of_decide_eq_true m2
      exact ⟨e ▸ m1, by omega⟩
    · rintro ⟨m, q⟩
      exact List.mem_map.mpr ⟨_, List.mem_filter.mpr ⟨m, decide_eq_true (by show - gn rows k < 0; omega)⟩, rfl⟩
  have lenK : K.length ≤ rows.length := by
    have := sub.length_le
    rw [List.length_map, pG.length_eq] at this
    omega
  rw [sortO_ok (by omega), Option.bind_some, Option.bind_some]
  have pc := sortT_perm K
  have rng : ∀ k ∈ sortT K, 0 ≤ k ∧ k < (rows.length : Int) := fun k m => by
    have := ((memK k).mp (pc.mem_iff.mp m)).1
    have := (hmem _).mp (pG.mem_iff.mp (List.mem_of_mem_take this))
    exact ⟨this.1, this.2.1⟩
  have lm : (K.length : Int) ≤ many := by
    rw [← hK, List.length_map]
    have h1 := (List.filter_sublist (p := fun (x5 : (Int × Int)) => (decide (x5.1 < (0 : Int)))) (l := List.take many.toNat G)).length_le
    have h2 := List.length_take_le many.toNat G
    omega
  refine ⟨sortT K, ?_, sort_ddup ndK, rng, by rw [pc.length_eq]; exact lm, by rw [pc.length_eq]; exact lenK, fun k h0 h1 nk => ?_⟩
  · rw [map_gn rng, Option.bind_some]; rfl
  · have nk' : k ∉ K := fun m => nk (pc.mem_iff.mpr m)
    have mG : (- gn rows k, k) ∈ G := pG.mem_iff.mpr ((hmem _).mpr ⟨h0, h1, rfl⟩)
    rw [← List.take_append_drop many.toNat G] at mG
    by_cases hp : gn rows k ≤ 0
    · exact .inr hp
    · rcases List.mem_append.mp mG with m | m
      · exact absurd ((memK k).mpr ⟨m, by omega⟩) nk'
      · refine .inl ⟨?_, fun j mj => ?_⟩
        · rw [pc.length_eq, ← hK, List.length_map, List.filter_eq_self.mpr]
          · have := List.length_pos_of_mem m
            rw [List.length_drop] at this
            rw [List.length_take]
            omega
          · intro p mp
            have := hA p mp _ m
            exact decide_eq_true (by show p.1 < 0; dsimp only at this; omega)
        · have := hA _ ((memK j).mp (pc.mem_iff.mp mj)).1 _ m
          dsimp only at this
          omega
end Law

set_option Elab.async false
set_option linter.all false
set_option maxRecDepth 100000
/-! K71c: what is right is greatest, and the other way round. -/
namespace Law
open PySem PyProof.Rows L2 VL TL
open Ty (en)
variable {rows : List (Int × Int)} {many : Int}
def sg (rows : List (Int × Int)) (c : List Int) : Int := (c.map (gn rows)).sum
theorem sumG_sg (c : List Int) : sumG rows c = (rows.map (·.1)).sum + sg rows c := rfl
theorem sum_perm {c d : List Int} (h : c.Perm d) : c.sum = d.sum := by
  induction h with
  | nil => rfl
  | cons x _ ih => rw [List.sum_cons, List.sum_cons, ih]
  | swap x y l => simp only [List.sum_cons]; omega
  | trans _ _ a b => rw [a, b]
theorem sg_perm {c d : List Int} (h : c.Perm d) : sg rows c = sg rows d := sum_perm (h.map (gn rows))
theorem sg_part (p : Int → Bool) (c : List Int) : sg rows c = sg rows (c.filter p) + sg rows (c.filter fun x => !p x) := by
  induction c with
  | nil => rfl
  | cons x c ih =>
    unfold sg at ih ⊢
    rw [List.map_cons, List.sum_cons, ih]
    by_cases h : p x = true
    · rw [List.filter_cons_of_pos h, List.filter_cons_of_neg (by simp [h]), List.map_cons, List.sum_cons]; omega
    · rw [List.filter_cons_of_neg h, List.filter_cons_of_pos (by simp [h]), List.map_cons, List.sum_cons]; omega
theorem len_part (p : Int → Bool) (c : List Int) : c.length = (c.filter p).length + (c.filter fun x => !p x).length := by
  induction c with
  | nil => rfl
  | cons x c ih =>
    by_cases h : p x = true
    · rw [List.filter_cons_of_pos h, List.filter_cons_of_neg (by simp [h]), List.length_cons, List.length_cons]; omega
    · rw [List.filter_cons_of_neg h, List.filter_cons_of_pos (by simp [h]), List.length_cons, List.length_cons]; omega
theorem sg_le {t : Int} : ∀ {c : List Int}, (∀ k ∈ c, gn rows k ≤ t) → sg rows c ≤ t * c.length
  | [], _ => by simp [sg]
  | x :: c, h => by
    have h1 := h x (by simp)
    have h2 := sg_le (c := c) fun k m => h k (List.mem_cons_of_mem _ m)
    unfold sg at h2 ⊢
    rw [List.map_cons, List.sum_cons, List.length_cons, Int.natCast_add, Int.mul_add]
    omega
theorem sg_ge {t : Int} : ∀ {c : List Int}, (∀ k ∈ c, t ≤ gn rows k) → t * c.length ≤ sg rows c
  | [], _ => by simp [sg]
  | x :: c, h => by
    have h1 := h x (by simp)
    have h2 := sg_ge (c := c) fun k m => h k (List.mem_cons_of_mem _ m)
    unfold sg at h2 ⊢
    rw [List.map_cons, List.sum_cons, List.length_cons, Int.natCast_add, Int.mul_add]
    omega
theorem meet_perm {c d : List Int} (hc : c.Nodup) (hd : d.Nodup) : (d.filter fun k => decide (k ∈ c)).Perm (c.filter fun k => decide (k ∈ d)) :=
  (List.perm_ext_iff_of_nodup (List.filter_sublist.nodup hd) (List.filter_sublist.nodup hc)).mpr fun k => by
    rw [List.mem_filter, List.mem_filter, decide_eq_true_eq, decide_eq_true_eq]
    exact and_comm
/-- c can't be bettered by one row -/
def LocOpt (rows : List (Int × Int)) (many : Int) (c : List Int) : Prop := ∀ k : Int, 0 ≤ k → k < rows.length → k ∉ c → gn rows k ≤ lst rows many c
theorem lst_spec {c : List Int} (hm : many ≠ 0) (h : (c.length : Int) = many) : (∃ j ∈ c, lst rows many c = gn rows j) ∧ ∀ j ∈ c, lst rows many c ≤ gn rows j := by
  have hne : c.map (gn rows) ≠ [] := by
    intro q
    have := List.map_eq_nil_iff.mp q
    subst this
    exact hm (by simpa using h.symm)
  obtain ⟨m, e, h1, h2⟩ := minT_ex hne
  unfold lst
  rw [if_pos h, e]
  obtain ⟨j, mj, ej⟩ := List.mem_map.mp h1
  exact ⟨⟨j, mj, ej.symm⟩, fun j mj => h2 _ (List.mem_map.mpr ⟨j, mj, rfl⟩)⟩
theorem best {c d : List Int} (hg : ∀ k, 0 ≤ gn rows k) (hm : many ≠ 0) (hc : c.Nodup) (hl : (c.length : Int) ≤ many) (ho : LocOpt rows many c)
    (hd : d.Nodup) (rd : ∀ k ∈ d, 0 ≤ k ∧ k < (rows.length : Int)) (ld : (d.length : Int) ≤ many) : sg rows d ≤ sg rows c := by
  rw [sg_part (fun k => decide (k ∈ c)) d, sg_part (fun k => decide (k ∈ d)) c, sg_perm (meet_perm hc hd)]
  have e1 := len_part (fun k => decide (k ∈ c)) d
  have e2 := len_part (fun k => decide (k ∈ d)) c
  have e3 := (meet_perm hc hd).length_eq
  have h1 : sg rows (d.filter fun k => !decide (k ∈ c)) ≤ lst rows many c * (d.filter fun k => !decide (k ∈ c)).length := sg_le fun k m => by
    obtain ⟨m1, m2⟩ := List.mem_filter.mp m
    exact ho k (rd k m1).1 (rd k m1).2 (by simpa using m2)
  by_cases hq : (c.length : Int) = many
  · obtain ⟨⟨j, _, ej⟩, hl2⟩ := lst_spec (rows := rows) hm hq
    have h2 : lst rows many c * (c.filter fun k => !decide (k ∈ d)).length ≤ sg rows (c.filter fun k => !decide (k ∈ d)) := sg_ge fun k m => hl2 k (List.mem_filter.mp m).1
    have h3 : lst rows many c * (d.filter fun k => !decide (k ∈ c)).length ≤ lst rows many c * (c.filter fun k => !decide (k ∈ d)).length := Int.mul_le_mul_of_nonneg_left (by omega) (by rw [ej]; exact hg j)
    omega
  · have h0 : lst rows many c = 0 := if_neg hq
    rw [h0, Int.zero_mul] at h1
    have h2 : 0 * ((c.filter fun k => !decide (k ∈ d)).length : Int) ≤ sg rows (c.filter fun k => !decide (k ∈ d)) := sg_ge fun k m => hg k
    rw [Int.zero_mul] at h2
    omega
/-- what is greatest can't be bettered by one row -/
theorem opt_of_best {d : List Int} (hg : ∀ k, 0 ≤ gn rows k) (hm : many ≠ 0) (hm0 : 0 ≤ many) (hd : d.Nodup) (rd : ∀ k ∈ d, 0 ≤ k ∧ k < (rows.length : Int)) (ld : (d.length : Int) ≤ many)
    (hb : ∀ e : List Int, e.Nodup → (∀ k ∈ e, 0 ≤ k ∧ k < (rows.length : Int)) → (e.length : Int) ≤ many → sg rows e ≤ sg rows d) : LocOpt rows many d := by
  intro k h0 h1 nk
  refine Int.not_lt.mp fun hk => ?_
  by_cases hq : (d.length : Int) = many
  · obtain ⟨⟨j, mj, ej⟩, _⟩ := lst_spec (rows := rows) hm hq
    have pe := List.perm_cons_erase mj
    have := hb (k :: d.erase j) (List.nodup_cons.mpr ⟨fun m => nk (List.mem_of_mem_erase m), hd.erase j⟩) (fun x m => ?_) ?_
    · have e1 := sg_perm (rows := rows) pe
      unfold sg at this e1
      rw [List.map_cons, List.sum_cons] at this e1
      omega
    · rcases List.mem_cons.mp m with rfl | m
      · exact ⟨h0, h1⟩
      · exact rd x (List.mem_of_mem_erase m)
    · have := pe.length_eq
      rw [List.length_cons] at this ⊢
      omega
  · have hz : lst rows many d = 0 := if_neg hq
    have := hb (k :: d) (List.nodup_cons.mpr ⟨nk, hd⟩) (fun x m => ?_) ?_
    · unfold sg at this
      rw [List.map_cons, List.sum_cons] at this
      omega
    · rcases List.mem_cons.mp m with rfl | m
      · exact ⟨h0, h1⟩
      · exact rd x m
    · rw [List.length_cons]; omega
theorem faultF_non {c : List Int} {cost : Int} : faultF rows many (cost, c) = .non ↔ (c = sortT (ddup c) ∧ (∀ k ∈ c, 0 ≤ k ∧ k < (rows.length : Int)) ∧ (c.length : Int) ≤ many) ∧ sumG rows c = cost ∧ (many = 0 ∨ LocOpt rows many c) := by
  unfold faultF
  dsimp only
  by_cases h1 : c ≠ sortT (ddup c) ∨ (∃ k ∈ c, ¬ (0 ≤ k ∧ k < (rows.length : Int))) ∨ many < (c.length : Int)
  · rw [if_pos h1]
    refine ⟨fun h => (by cases h), fun ⟨⟨a, b, d⟩, _⟩ => ?_⟩
    rcases h1 with h | ⟨k, m, h⟩ | h
    · exact absurd a h
    · exact absurd (b k m) h
    · omega
  · rw [if_neg h1]
    have n1 := nbad h1
    by_cases h2 : sumG rows c ≠ cost
    · rw [if_pos h2]
      exact ⟨fun h => (by cases h), fun h => absurd h.2.1 h2⟩
    · rw [if_neg h2]
      have h2' : sumG rows c = cost := Decidable.byContradiction h2
      by_cases h3 : many = 0
      · rw [if_pos h3]
        exact ⟨fun _ => ⟨n1, h2', .inl h3⟩, fun _ => rfl⟩
      · rw [if_neg h3]
        cases e : (rangeT 0 (rows.length : Int)).findSome? fun k => if k ∉ c ∧ lst rows many c < gn rows k then some (.tup [en ("dearer" : Str), en k] : D) else none with
        | none =>
          refine ⟨fun _ => ⟨n1, h2', .inr fun k h0 h4 nk => ?_⟩, fun _ => rfl⟩
          have := List.findSome?_eq_none_iff.mp e k (by rw [rangeT_nat]; exact List.mem_map.mpr ⟨k.toNat, List.mem_range.mpr (by omega), by omega⟩)
          refine Int.not_lt.mp fun q => ?_
          rw [if_pos ⟨nk, q⟩] at this
          cases this
        | some z =>
          obtain ⟨k, m, ez⟩ := List.exists_of_findSome?_eq_some e
          have hk : 0 ≤ k ∧ k < (rows.length : Int) := by
            rw [rangeT_nat] at m
            obtain ⟨j, hj, rfl⟩ := List.mem_map.mp m
            have := List.mem_range.mp hj
            omega
          by_cases q : k ∉ c ∧ lst rows many c < gn rows k
          · rw [if_pos q] at ez
            cases ez
            refine ⟨fun h => (by cases h), fun h => ?_⟩
            rcases h.2.2 with z | z
            · exact absurd z h3
            · have := z k hk.1 hk.2 q.1
              omega
          · rw [if_neg q] at ez; cases ez
end Law

set_option Elab.async false
set_option linter.all false
set_option maxRecDepth 100000
/-! K71e: an amount that is shared. -/
namespace Law
open PySem PyProof.Rows L2 VL TL
open Ty (en)
/-- one more at each of some places -/
def incr (P : List Int) (ks : List Int) : List Int := ks.foldl (fun s k => s.set k.toNat ((s[k.toNat]?).getD 0 + 1)) P
theorem incr_len : ∀ (ks P : List Int), (incr P ks).length = P.length
  | [], _ => rfl
  | k :: ks, P => by
    show (incr (P.set _ _) ks).length = _
    rw [incr_len ks, List.length_set]
theorem incr_get : ∀ (ks P : List Int), ks.Nodup → (∀ k ∈ ks, 0 ≤ k ∧ k < (P.length : Int)) → ∀ j : Nat, (incr P ks)[j]? = (P[j]?).map fun x => x + if (j : Int) ∈ ks then 1 else 0
  | [], P, _, _, j => by
    show P[j]? = _
    cases P[j]? <;> simp
  | k :: ks, P, nd, h, j => by
    obtain ⟨n1, n2⟩ := List.nodup_cons.mp nd
    show (incr (P.set _ _) ks)[j]? = _
    rw [incr_get ks _ n2 (fun x m => by rw [List.length_set]; exact h x (List.mem_cons_of_mem _ m)) j]
    have hk := h k (by simp)
    by_cases c : j = k.toNat
    · subst c
      have e : ((k.toNat : Nat) : Int) = k := by omega
      rw [e, List.getElem?_set_self (by omega), if_neg n1, if_pos (by simp)]
      cases q : P[k.toNat]? with
      | none => rw [List.getElem?_eq_none_iff] at q; omega
      | some x => simp
    · have : (j : Int) ≠ k := by omega
      rw [List.getElem?_set_ne (by omega)]
      simp [this]
theorem sum_set : ∀ (P : List Int) (j : Nat) (x : Int), j < P.length → (P.set j x).sum = P.sum - (P[j]?).getD 0 + x
  | p :: P, 0, x, _ => by simp; omega
  | p :: P, j + 1, x, h => by
    have := sum_set P j x (by simpa using h)
    simp only [List.set_cons_succ, List.sum_cons, this, List.getElem?_cons_succ]; omega
theorem incr_sum : ∀ (ks P : List Int), (∀ k ∈ ks, 0 ≤ k ∧ k < (P.length : Int)) → (incr P ks).sum = P.sum + ks.length
  | [], P, _ => by show P.sum = _; simp
  | k :: ks, P, h => by
    have hk := h k (by simp)
    show (incr (P.set _ _) ks).sum = _
    rw [incr_sum ks _ (fun x m => by rw [List.length_set]; exact h x (List.mem_cons_of_mem _ m)), sum_set P _ _ (by omega), List.length_cons]
    omega
theorem incr_snoc (P ks : List Int) (k : Int) : incr P (ks ++ [k]) = (incr P ks).set k.toNat (((incr P ks)[k.toNat]?).getD 0 + 1) := by
  unfold incr
  rw [List.foldl_append]; rfl
theorem minT_lin {α : Type} [Ty α] [DecidableEq α] [TyOrd α] [TyLin α] {xs : List α} {m : α} (h1 : m ∈ xs) (h2 : ∀ x ∈ xs, leT m x = true) : minT xs = some m := by
  obtain ⟨z, hz⟩ := minT_ne (List.ne_nil_of_mem h1)
  obtain ⟨k1, k2⟩ := minT_some hz
  have a := h2 z k1
  have b := k2 m h1
  have a' : (!TyOrd.lt z m) = true := a
  have b' : (!TyOrd.lt m z) = true := b
  rw [Bool.not_eq_true'] at a' b'
  rcases TyLin.lin m z with e | e | e
  · rw [hz, e]
  · rw [e] at b'; cases b'
  · rw [e] at a'; cases a'
section
variable (cents : Int) (w : List Int)
def pt (x : Int) : Int := cents * x / w.sum
def pts : List Int := w.map (pt cents w)
/-- how much less a place has than is due, times the whole -/
def rs1 (x : Int) : Int := pt cents w x * w.sum - cents * x
def rsL : List (Int × Int) := (enumT w).map fun p => (rs1 cents w p.2, p.1)
def rsG : List (Int × Int) := sortT (rsL cents w)
def lft : Int := cents - (pts cents w).sum
def shr (t : Nat) : List Int := incr (pts cents w) (((rsG cents w).take t).map (·.2))
end
structure Sh (cents : Int) (w : List Int) : Prop where
  c0 : 0 ≤ cents
  c1 : cents < 2 ^ 40
  len : w.length ≤ 100
  w0 : ∀ x ∈ w, 0 ≤ x
  w1 : ∀ x ∈ w, x < 2 ^ 20
  pos : 0 < w.sum
section
variable {cents : Int} {w : List Int}
theorem sum_lt : ∀ {w : List Int}, (∀ x ∈ w, 0 ≤ x) → (∀ x ∈ w, x < 2 ^ 20) → 0 ≤ w.sum ∧ w.sum ≤ 2 ^ 20 * w.length
  | [], _, _ => by simp
  | x :: w, h, k => by
    have := sum_lt (w := w) (fun y m => h y (List.mem_cons_of_mem _ m)) fun y m => k y (List.mem_cons_of_mem _ m)
    have h1 := h x (by simp)
    have k1 := k x (by simp)
    rw [List.sum_cons, List.length_cons]
    omega
theorem rs1_b (h : Sh cents w) (x : Int) : - w.sum < rs1 cents w x ∧ rs1 cents w x ≤ 0 := by
  unfold rs1 pt
  have e := Int.mul_ediv_add_emod (cents * x) w.sum
  have e1 := Int.emod_nonneg (cents * x) (Int.ne_of_gt h.pos)
  have e2 := Int.emod_lt_of_pos (cents * x) h.pos
  rw [Int.mul_comm] at e
  omega
theorem pts_len : (pts cents w).length = w.length := by unfold pts; rw [List.length_map]
theorem rsL_len : (rsL cents w).length = w.length := by unfold rsL; rw [List.length_map, enumT_len]
theorem rsG_perm : (rsG cents w).Perm (rsL cents w) := sortT_perm _
theorem rsL_mem {p : Int × Int} : p ∈ rsL cents w ↔ 0 ≤ p.2 ∧ ∃ x, w[p.2.toNat]? = some x ∧ p.1 = rs1 cents w x := by
  unfold rsL
  constructor
  · intro m
    obtain ⟨q, m', rfl⟩ := List.mem_map.mp m
    obtain ⟨h1, h2⟩ := enumT_mem.mp m'
    exact ⟨h1, q.2, h2, rfl⟩
  · rintro ⟨h1, x, h2, h3⟩
    exact List.mem_map.mpr ⟨(p.2, x), enumT_mem.mpr ⟨h1, h2⟩, Prod.ext h3.symm rfl⟩
theorem rsG_mem {p : Int × Int} : p ∈ rsG cents w ↔ 0 ≤ p.2 ∧ ∃ x, w[p.2.toNat]? = some x ∧ p.1 = rs1 cents w x := rsG_perm.mem_iff.trans rsL_mem
theorem rsG_nd : ((rsG cents w).map (·.2)).Nodup := by
  refine (rsG_perm.map _).nodup_iff.mpr ?_
  unfold rsL
  rw [List.map_map, show (((fun x : Int × Int => x.2) ∘ fun p : Int × Int => (rs1 cents w p.2, p.1))) = (fun p : Int × Int => p.1) from rfl, enumT_fst]
  exact rangeT_nodup _ _
theorem rsG_in {t : Nat} : ∀ k ∈ ((rsG cents w).take t).map (·.2), 0 ≤ k ∧ k < ((pts cents w).length : Int) := fun k m => by
  obtain ⟨p, m', rfl⟩ := List.mem_map.mp m
  obtain ⟨h1, x, h2, _⟩ := rsG_mem.mp (List.mem_of_mem_take m')
  have := (List.getElem?_eq_some_iff.mp h2).1
  rw [pts_len]
  omega
theorem take_nd {t : Nat} : (((rsG cents w).take t).map (·.2)).Nodup := ((List.take_sublist t _).map _).nodup rsG_nd
theorem shr_get (t j : Nat) : (shr cents w t)[j]? = ((pts cents w)[j]?).map fun x => x + if (j : Int) ∈ ((rsG cents w).take t).map (·.2) then 1 else 0 := incr_get _ _ take_nd rsG_in j
theorem shr_sum (t : Nat) (ht : t ≤ w.length) : (shr cents w t).sum = (pts cents w).sum + t := by
  unfold shr
  rw [incr_sum _ _ rsG_in, List.length_map, List.length_take, rsG_perm.length_eq, rsL_len]
  omega
theorem shr_len (t : Nat) : (shr cents w t).length = w.length := by unfold shr; rw [incr_len, pts_len]
theorem rs_sum (W : Int) : ∀ u : List Int, (u.map fun x => cents * x / W * W - cents * x).sum = (u.map fun x => cents * x / W).sum * W - cents * u.sum
  | [] => by simp
  | x :: u => by
    have := rs_sum W u
    rw [List.map_cons, List.sum_cons, this, List.map_cons, List.sum_cons, List.sum_cons, Int.add_mul, Int.mul_add]
    omega
theorem sum_b {lo hi : Int} : ∀ {u : List Int}, (∀ x ∈ u, lo ≤ x ∧ x ≤ hi) → lo * u.length ≤ u.sum ∧ u.sum ≤ hi * u.length
  | [], _ => by simp
  | x :: u, h => by
    have h1 := h x (by simp)
    have h2 := sum_b (u := u) fun y m => h y (List.mem_cons_of_mem _ m)
    rw [List.sum_cons, List.length_cons, Int.natCast_add, Int.mul_add, Int.mul_add]
    omega
theorem lft_b (h : Sh cents w) : 0 ≤ lft cents w ∧ lft cents w < w.length := by
  have e := rs_sum (cents := cents) w.sum w
  have b := sum_b (lo := - (w.sum - 1)) (hi := 0) (u := w.map fun x => cents * x / w.sum * w.sum - cents * x) fun y m => by
    obtain ⟨x, _, rfl⟩ := List.mem_map.mp m
    have := rs1_b h x
    unfold rs1 pt at this
    omega
  rw [e, List.length_map] at b
  have e2 : (w.map fun x => cents * x / w.sum) = pts cents w := rfl
  rw [e2] at b
  have hp := h.pos
  have hn : 0 < (w.length : Int) := by
    cases w with
    | nil => simp at hp
    | cons x w => rw [List.length_cons]; omega
  have e3 : (pts cents w).sum * w.sum - cents * w.sum = - (lft cents w * w.sum) := by unfold lft; rw [Int.sub_mul]; omega
  rw [e3] at b
  constructor
  · refine Int.not_lt.mp fun q => ?_
    have : lft cents w * w.sum < 0 := Int.mul_neg_of_neg_of_pos q hp
    omega
  · refine Int.not_le.mp fun q => ?_
    have h1 : (w.length : Int) * w.sum ≤ lft cents w * w.sum := Int.mul_le_mul_of_nonneg_right q (by omega)
    have h2 : -(w.sum - 1) * (w.length : Int) = - ((w.length : Int) * w.sum) + w.length := by
      rw [Int.neg_mul, Int.sub_mul, Int.one_mul, Int.mul_comm]; omega
    omega
theorem leT_of_lt {a b : Int × Int} (h : a.1 < b.1) : leT a b = true := by
  show (!(if b.1 = a.1 then (if b.2 = a.2 then false else decide (b.2 < a.2)) else decide (b.1 < a.1))) = true
  rw [if_neg (by omega)]
  simp; omega
/-- the next place -/
theorem next_min (h : Sh cents w) {t : Nat} (ht : (t : Int) < lft cents w) : ∃ p, (rsG cents w)[t]? = some p ∧
    minT ((rangeT 0 (w.length : Int)).map fun k => (((shr cents w t)[k.toNat]?).getD 0 * w.sum - cents * (w[k.toNat]?).getD 0, k)) = some p := by
  have hb := lft_b h
  have hl : (rsG cents w).length = w.length := by rw [rsG_perm.length_eq, rsL_len]
  have htl : t < (rsG cents w).length := by omega
  have hsp : rsG cents w = (rsG cents w).take t ++ (rsG cents w)[t] :: (rsG cents w).drop (t + 1) := by
    rw [← List.drop_eq_getElem_cons htl, List.take_append_drop]
  have hmem : (rsG cents w)[t] ∈ rsG cents w := List.getElem_mem htl
  have so : (rsG cents w).Pairwise fun a b => leT a b = true := sortT_sorted _
  refine ⟨(rsG cents w)[t], List.getElem?_eq_getElem htl, ?_⟩
  have val : ∀ k : Int, 0 ≤ k → k < w.length → ∃ x, w[k.toNat]? = some x ∧ ((shr cents w t)[k.toNat]?).getD 0 * w.sum - cents * (w[k.toNat]?).getD 0 = rs1 cents w x + (if k ∈ ((rsG cents w).take t).map (·.2) then w.sum else 0) := fun k h0 h1 => by
    have hk : k.toNat < w.length := by omega
    refine ⟨w[k.toNat], List.getElem?_eq_getElem hk, ?_⟩
    have e1 : (pts cents w)[k.toNat]? = some (pt cents w w[k.toNat]) := by unfold pts; rw [List.getElem?_map, List.getElem?_eq_getElem hk]; rfl
    have e2 : ((k.toNat : Nat) : Int) = k := by omega
    rw [shr_get, e1, List.getElem?_eq_getElem hk, e2]
    unfold rs1
    simp only [Option.map_some, Option.getD_some]
    split <;> rw [Int.add_mul] <;> omega
  refine minT_lin ?_ ?_
  · obtain ⟨h0, x, h1, h2⟩ := rsG_mem.mp hmem
    have hk := (List.getElem?_eq_some_iff.mp h1).1
    refine List.mem_map.mpr ⟨(rsG cents w)[t].2, by rw [rangeT_nat]; exact List.mem_map.mpr ⟨_, List.mem_range.mpr hk, by omega⟩, ?_⟩
    obtain ⟨y, h3, h4⟩ := val (rsG cents w)[t].2 h0 (by omega)
    rw [h1] at h3
    cases h3
    refine Prod.ext ?_ rfl
    rw [h4, if_neg, h2, Int.add_zero]
    intro m
    have nd := rsG_nd (cents := cents) (w := w)
    rw [hsp, List.map_append, List.map_cons] at nd
    exact (List.nodup_append.mp nd).2.2 _ m _ (List.mem_cons_self ..) rfl
  · intro q m
    obtain ⟨k, mk, rfl⟩ := List.mem_map.mp m
    have hk : 0 ≤ k ∧ k < (w.length : Int) := by
      rw [rangeT_nat] at mk
      obtain ⟨j, hj, rfl⟩ := List.mem_map.mp mk
      have := List.mem_range.mp hj
      omega
    obtain ⟨x, h1, h2⟩ := val k hk.1 hk.2
    rw [h2]
    obtain ⟨_, y, _, h4⟩ := rsG_mem.mp hmem
    have b1 := rs1_b h x
    have b2 := rs1_b h y
    by_cases c : k ∈ ((rsG cents w).take t).map (·.2)
    · rw [if_pos c]
      exact leT_of_lt (by show (rsG cents w)[t].1 < rs1 cents w x + w.sum; omega)
    · rw [if_neg c, Int.add_zero]
      have mk2 : (rs1 cents w x, k) ∈ rsG cents w := rsG_mem.mpr ⟨hk.1, x, h1, rfl⟩
      rw [hsp] at mk2 so
      rcases List.mem_append.mp mk2 with z | z
      · exact absurd (List.mem_map.mpr ⟨_, z, rfl⟩) c
      · rcases List.mem_cons.mp z with z | z
        · rw [← z]
          show (!TyOrd.lt _ _) = true
          rw [ltT_irrefl]; rfl
        · exact (List.pairwise_cons.mp (List.pairwise_append.mp so).2.1).1 _ z
end
end Law

set_option Elab.async false
set_option linter.all false
set_option maxRecDepth 100000
/-! K71f: shared, both ways. -/
namespace Law
open PySem PyProof.Rows L2 VL TL
open Ty (en)
variable {cents : Int} {w : List Int}
theorem part_map (h : Sh cents w) : mapT (fun (x3 : Int) => (mulT cents x3).bind fun v4 => divT v4 w.sum) w = some (pts cents w) := by
  have hs := sum_lt h.w0 h.w1
  have := h.len
  have := h.c0
  have := h.c1
  refine mapT_some fun x m => ?_
  have := h.w0 x m
  have := h.w1 x m
  rw [mulT_l (by omega), Option.bind_some]
  unfold divT
  rw [if_pos]
  · rfl
  · refine ⟨h.pos, ?_⟩
    have : w.sum.natAbs < 2 ^ 60 := by omega
    have := (Nat.log2_lt (n := w.sum.natAbs) (k := 60) (by have := h.pos; omega)).mpr this
    omega
theorem shared_ok (h : Sh cents w) : T_shared cents w = some (shr cents w (lft cents w).toNat) := by
  have hb := lft_b h
  have hl := h.len
  have hs := sum_lt h.w0 h.w1
  have c0 := h.c0
  have c1 := h.c1
  unfold T_shared
  rw [Option.bind_some, if_neg (by have := h.pos; simp; omega), part_map h, Option.bind_some]
  have e1 : (mapT (fun (x11 : (Int × Int)) => (atI (pts cents w) x11.1).bind fun v12 => (mulT v12 w.sum).bind fun v14 => (mulT cents x11.2).bind fun v16 => some ((v14 - v16), x11.1)) (enumT w)) = some (rsL cents w) := by
    refine mapT_some fun p m => ?_
    obtain ⟨h0, h1⟩ := enumT_mem.mp m
    have hk := (List.getElem?_eq_some_iff.mp h1).1
    have e : (pts cents w)[p.1.toNat]? = some (pt cents w p.2) := by unfold pts; rw [List.getElem?_map, h1]; rfl
    rw [atI_pos h0, e, Option.bind_some, mulT_r (by omega), Option.bind_some, mulT_l (by omega), Option.bind_some]
    rfl
  rw [e1, Option.bind_some, sortO_ok (by rw [rsL_len]; omega), Option.bind_some, Option.bind_some, show cents - (pts cents w).sum = lft cents w from rfl, cut_to _ hb.1]
  show ansT (sqT (loopT _ ((rsG cents w).take (lft cents w).toNat) (pts cents w)) _) = _
  have e2 : ∀ (t : Nat), (loopT (fun (x24 : (Int × Int)) (s23 : (List Int)) => ((atI s23 x24.2).bind fun v25 => putT s23 x24.2 (v25 + (1 : Int))).bind fun y_27 => some (.nx y_27)) ((rsG cents w).take t) (pts cents w) : Option (Flow (List Int) Empty (List Int))) = some (.nx (shr cents w t)) := fun t => by
    refine (loopT_foldJ (f := fun s x => s.set x.2.toNat ((s[x.2.toNat]?).getD 0 + 1)) (fun s => s.length = w.length) pts_len ?_).1.trans ?_
    · intro p m s hs
      obtain ⟨h0, x, h1, _⟩ := rsG_mem.mp (List.mem_of_mem_take m)
      have hk := (List.getElem?_eq_some_iff.mp h1).1
      have hk' : p.2.toNat < s.length := by omega
      rw [atI_pos h0, List.getElem?_eq_getElem hk', Option.bind_some, putT_ok h0 (by omega), Option.bind_some]
      exact ⟨rfl, by rw [List.length_set]; exact hs⟩
    · unfold shr incr
      rw [List.foldl_map]
  rw [e2]
  rfl
theorem law_shared_ok (h : Sh cents w) : T__law_shared cents w = some (shr cents w (lft cents w).toNat) := by
  have hb := lft_b h
  have hl := h.len
  have hs := sum_lt h.w0 h.w1
  have c0 := h.c0
  have c1 := h.c1
  unfold T__law_shared
  rw [Option.bind_some, if_neg (by have := h.pos; simp; omega), part_map h, Option.bind_some]
  obtain ⟨fl, e, P⟩ : ∃ fl : Flow (List Int) Empty (List Int), (whT (fun (s11 : (List Int)) => some (decide (s11.sum < cents))) (fun (s11 : (List Int)) => ((rngT (w.length : Int)).bind fun v12 => (mapT (fun (x14 : Int) => (atI s11 x14).bind fun v15 => (mulT v15 w.sum).bind fun v17 => (atI w x14).bind fun v19 => (mulT cents v19).bind fun v21 => some ((v17 - v21), x14)) v12).bind fun v23 => some v23).bind fun rests_25 => ((minT rests_25).bind fun v26 => (atI s11 v26.2).bind fun v28 => (minT rests_25).bind fun v30 => putT s11 v30.2 (v28 + (1 : Int))).bind fun y_32 => some (.nx y_32)) (fuelK 1000) (pts cents w)) = some fl ∧ fl = .nx (shr cents w (lft cents w).toNat) := by
    have sumt : ∀ t : Nat, (t : Int) ≤ lft cents w → (shr cents w t).sum = cents - lft cents w + t := fun t ht => by
      rw [shr_sum t (by omega)]
      unfold lft; omega
    rw [fuelK_eq]
    refine whT_ok (fun s => ∃ t : Nat, (t : Int) ≤ lft cents w ∧ s = shr cents w t) (fun s => (cents - s.sum).toNat) ⟨0, by omega, rfl⟩ ?_ ?_ (fun s _ => ⟨_, rfl⟩) ?_
    · have := sumt 0 (by omega)
      rw [show pts cents w = shr cents w 0 from rfl, this]
      omega
    · rintro s ⟨t, ht, rfl⟩ e
      have e := of_decide_eq_false (Option.some.inj e)
      rw [sumt t ht] at e
      have : (lft cents w).toNat = t := by omega
      rw [this]
    · rintro s ⟨t, ht, rfl⟩ e
      have e := of_decide_eq_true (Option.some.inj e)
      rw [sumt t ht] at e
      obtain ⟨p, hp, hm⟩ := next_min h (t := t) (by omega)
      have hl2 := shr_len (cents := cents) (w := w) t
      obtain ⟨h0, x, h1, _⟩ := rsG_mem.mp (List.mem_of_getElem? hp)
      have hk := (List.getElem?_eq_some_iff.mp h1).1
      have e1 : (mapT (fun (x14 : Int) => (atI (shr cents w t) x14).bind fun v15 => (mulT v15 w.sum).bind fun v17 => (atI w x14).bind fun v19 => (mulT cents v19).bind fun v21 => some ((v17 - v21), x14)) (rangeT 0 (w.length : Int))) = some ((rangeT 0 (w.length : Int)).map fun k => (((shr cents w t)[k.toNat]?).getD 0 * w.sum - cents * (w[k.toNat]?).getD 0, k)) := by
        refine mapT_some fun k m => ?_
        have hk : 0 ≤ k ∧ k < (w.length : Int) := by
          rw [rangeT_nat] at m
          obtain ⟨j, hj, rfl⟩ := List.mem_map.mp m
          have := List.mem_range.mp hj
          omega
        rw [atI_pos hk.1, List.getElem?_eq_getElem (by omega), Option.bind_some, mulT_r (by omega), Option.bind_some, atI_pos hk.1, List.getElem?_eq_getElem (by omega), Option.bind_some, mulT_l (by omega), Option.bind_some]
        rfl
      rw [rngT_ok (by omega), Option.bind_some, e1, Option.bind_some, Option.bind_some, hm, Option.bind_some, atI_pos h0, List.getElem?_eq_getElem (by omega), Option.bind_some, Option.bind_some, putT_ok h0 (by omega), Option.bind_some]
      have es : shr cents w (t + 1) = (shr cents w t).set p.2.toNat ((shr cents w t)[p.2.toNat]'(by omega) + 1) := by
        show incr _ _ = _
        rw [List.take_add_one, hp, List.map_append]
        show incr _ (_ ++ [p.2]) = _
        rw [incr_snoc]
        show (shr cents w t).set _ (((shr cents w t)[p.2.toNat]?).getD 0 + 1) = _
        rw [List.getElem?_eq_getElem (by omega)]
        rfl
      refine ⟨_, rfl, ⟨t + 1, by omega, es.symm⟩, ?_⟩
      rw [← es, sumt (t + 1) (by omega), sumt t ht]
      omega
  rw [e, P]
  rfl
end Law

set_option Elab.async false
set_option linter.all false
set_option maxRecDepth 100000
/-! K71g: the faults of a shared amount. -/
namespace Law
open PySem PyProof.Rows L2 VL TL
open Ty (en)
variable {cents : Int} {w : List Int}
def gap (cents : Int) (w ps : List Int) (j : Int) : Int := (ps[j.toNat]?).getD 0 * w.sum - cents * (w[j.toNat]?).getD 0
def shF (cents : Int) (w ps : List Int) : D :=
  if ps.length ≠ w.length ∨ ∃ x ∈ ps, x < 0 then .tup [en ("form" : Str)]
  else if w.sum = 0 then (if ps.sum = 0 then .non else .tup [en ("sum" : Str)])
  else if ps.sum ≠ cents then .tup [en ("sum" : Str)]
  else ((rangeT 0 (ps.length : Int)).findSome? fun i => (rangeT 0 (ps.length : Int)).findSome? fun j =>
    if w.sum < gap cents w ps i - gap cents w ps j ∨ gap cents w ps i - gap cents w ps j = w.sum ∧ j < i then some (.tup [en ("parts" : Str), en i, en j] : D) else none).getD .non
theorem sq_found {σ σ' ρ : Type} (o : Option ρ) : (sqT (some (foundF (σ' := σ) o)) fun _ => some (.nx ()) : Option (Flow Unit σ ρ)) = some (foundF o) := by
  cases o <;> rfl
theorem neg_iff {ps : List Int} : (0 : Int) < ((List.map (fun (x2 : Int) => x2) (List.filter (fun (x2 : Int) => (decide (x2 < (0 : Int)))) ps)).length : Int) ↔ ∃ x ∈ ps, x < 0 := by
  rw [List.length_map]
  constructor
  · intro h
    have : 0 < (List.filter (fun (x2 : Int) => (decide (x2 < (0 : Int)))) ps).length := by omega
    obtain ⟨k, m⟩ := List.exists_mem_of_length_pos this
    obtain ⟨m1, m2⟩ := List.mem_filter.mp m
    exact ⟨k, m1, of_decide_eq_true m2⟩
  · rintro ⟨k, m, q⟩
    have : k ∈ List.filter (fun (x2 : Int) => (decide (x2 < (0 : Int)))) ps := List.mem_filter.mpr ⟨m, decide_eq_true q⟩
    have := List.length_pos_of_mem this
    omega
theorem in_range {n : Nat} {k : Int} (m : k ∈ rangeT 0 (n : Int)) : 0 ≤ k ∧ k < (n : Int) := by
  rw [rangeT_nat] at m
  obtain ⟨j, hj, rfl⟩ := List.mem_map.mp m
  have := List.mem_range.mp hj
  omega
structure Sh0 (cents : Int) (w ps : List Int) : Prop where
  c : cents.natAbs < 2 ^ 40
  len : w.length ≤ 100
  w0 : ∀ x ∈ w, 0 ≤ x
  w1 : ∀ x ∈ w, x < 2 ^ 20
  pl : ps.length ≤ 100
theorem law_shF (h : Sh0 cents w ps) : T__law_shared_fault cents w ps = some (shF cents w ps) := by
  have hs := sum_lt h.w0 h.w1
  have hl := h.len
  have hc := h.c
  have hpl := h.pl
  unfold T__law_shared_fault shF
  rw [Option.bind_some]
  by_cases h1 : ps.length ≠ w.length ∨ ∃ x ∈ ps, x < 0
  · rw [if_pos h1, if_pos]
    · rfl
    · simp only [Bool.or_eq_true, Bool.not_eq_true', decide_eq_false_iff_not, decide_eq_true_eq, neg_iff]
      exact h1.imp (fun q => by omega) id
  · rw [if_neg h1, if_neg]
    · have e1 : ps.length = w.length := Decidable.byContradiction fun q => h1 (.inl q)
      by_cases h2 : w.sum = 0
      · rw [if_pos h2, if_pos (decide_eq_true h2)]
        by_cases h3 : ps.sum = 0
        · rw [if_pos h3, if_pos (decide_eq_true h3)]; rfl
        · rw [if_neg h3, if_neg (by simpa using h3)]; rfl
      · rw [if_neg h2, if_neg (by simpa using h2)]
        by_cases h3 : ps.sum ≠ cents
        · rw [if_pos h3, if_pos (by simpa using h3)]; rfl
        · rw [if_neg h3, if_neg (by simpa using h3), rngT_ok (by omega), Option.bind_some]
          rw [loopT_find (r := fun i => (rangeT 0 (ps.length : Int)).findSome? fun j =>
            if w.sum < gap cents w ps i - gap cents w ps j ∨ gap cents w ps i - gap cents w ps j = w.sum ∧ j < i then some (.tup [en ("parts" : Str), en i, en j] : D) else none)]
          · exact found_ans rfl
          · intro i mi
            have hi := in_range mi
            rw [Option.bind_some, loopT_find (r := fun j =>
              if w.sum < gap cents w ps i - gap cents w ps j ∨ gap cents w ps i - gap cents w ps j = w.sum ∧ j < i then some (.tup [en ("parts" : Str), en i, en j] : D) else none)]
            · exact sq_found (σ' := Unit) _
            · intro j mj
              have hj := in_range mj
              have eg : (ps[i.toNat] - ps[j.toNat]) * w.sum - cents * (w[i.toNat] - w[j.toNat]) = gap cents w ps i - gap cents w ps j := by
                unfold gap
                rw [List.getElem?_eq_getElem (by omega), List.getElem?_eq_getElem (by omega), List.getElem?_eq_getElem (by omega), List.getElem?_eq_getElem (by omega), Int.sub_mul, Int.mul_sub]
                simp only [Option.getD_some]
                omega
              rw [atI_pos hi.1, List.getElem?_eq_getElem (by omega), Option.bind_some, atI_pos hj.1, List.getElem?_eq_getElem (by omega), Option.bind_some, mulT_r (by omega), Option.bind_some, atI_pos hi.1, List.getElem?_eq_getElem (by omega), Option.bind_some, atI_pos hj.1, List.getElem?_eq_getElem (by omega), Option.bind_some, mulT_l (by omega), Option.bind_some, Option.bind_some, eg]
              by_cases q : w.sum < gap cents w ps i - gap cents w ps j ∨ gap cents w ps i - gap cents w ps j = w.sum ∧ j < i
              · rw [if_pos q, if_pos (by simpa using q)]; rfl
              · rw [if_neg q, if_neg (by simpa using q)]; rfl
    · simp only [Bool.or_eq_true, Bool.not_eq_true', decide_eq_false_iff_not, decide_eq_true_eq, neg_iff]
      exact fun q => h1 (q.imp (fun q => by omega) id)
theorem prog_shF (h : Sh0 cents w ps) : T_shared_fault cents w ps = some (shF cents w ps) := by
  have hs := sum_lt h.w0 h.w1
  have hl := h.len
  have hc := h.c
  have hpl := h.pl
  unfold T_shared_fault shF
  rw [Option.bind_some]
  have e0 : (if (!decide ((ps.length : Int) = (w.length : Int))) = true then some true else (addL ps [(0 : Int)]).bind fun v2 => (minT v2).bind fun v4 => some (decide (v4 < (0 : Int)))) = some (decide (ps.length ≠ w.length ∨ ∃ x ∈ ps, x < 0)) := by
    by_cases q : ps.length = w.length
    · rw [if_neg (by simp [q]), addL_ok (by simp; omega), Option.bind_some]
      obtain ⟨m, e, h1, h2⟩ := minT_ex (xs := ps ++ [0]) (by simp)
      rw [e, Option.bind_some]
      congr 1
      refine decide_eq_decide.mpr ⟨fun z => .inr ?_, fun z => ?_⟩
      · rcases List.mem_append.mp h1 with m1 | m1
        · exact ⟨m, m1, z⟩
        · rw [List.mem_singleton.mp m1] at z; omega
      · rcases z with z | ⟨x, mx, z⟩
        · exact absurd q z
        · have := h2 x (List.mem_append_left _ mx); omega
    · rw [if_pos (by simp; omega), decide_eq_true (.inl q)]
  rw [e0, Option.bind_some]
  by_cases h1 : ps.length ≠ w.length ∨ ∃ x ∈ ps, x < 0
  · rw [if_pos h1, if_pos (decide_eq_true h1)]; rfl
  · rw [if_neg h1, if_neg (by simpa using h1)]
    have e1 : ps.length = w.length := Decidable.byContradiction fun q => h1 (.inl q)
    by_cases h2 : w.sum = 0
    · rw [if_pos h2, if_pos (decide_eq_true h2)]
      by_cases h3 : ps.sum = 0
      · rw [if_pos h3, if_pos (decide_eq_true h3)]; rfl
      · rw [if_neg h3, if_neg (by simpa using h3)]; rfl
    · rw [if_neg h2, if_neg (by simpa using h2)]
      by_cases h3 : ps.sum ≠ cents
      · rw [if_pos h3, if_pos (by simpa using h3)]; rfl
      · rw [if_neg h3, if_neg (by simpa using h3)]
        have eg : (mapT (fun (x8 : (Int × Int)) => (atI ps x8.1).bind fun v9 => (mulT v9 w.sum).bind fun v11 => (mulT cents x8.2).bind fun v13 => some (v11 - v13)) (enumT w)) = some ((rangeT 0 (ps.length : Int)).map (gap cents w ps)) := by
          rw [e1, ← enumT_fst, List.map_map]
          refine mapT_some fun p m => ?_
          obtain ⟨h0, h4⟩ := enumT_mem.mp m
          have hk := (List.getElem?_eq_some_iff.mp h4).1
          rw [atI_pos h0, List.getElem?_eq_getElem (by omega), Option.bind_some, mulT_r (by omega), Option.bind_some, mulT_l (by omega), Option.bind_some]
          unfold gap
          simp only [Function.comp]
          rw [h4, List.getElem?_eq_getElem (by omega)]
          rfl
        have ga : ∀ k : Int, 0 ≤ k → k < (ps.length : Int) → atI ((rangeT 0 (ps.length : Int)).map (gap cents w ps)) k = some (gap cents w ps k) := fun k h0 h4 => by
          rw [atI_pos h0, List.getElem?_map, rangeT_get (by omega)]
          show some _ = some _
          congr 2; omega
        rw [eg, Option.bind_some, Option.bind_some, rngT_ok (by omega), Option.bind_some]
        rw [loopT_find (r := fun i => (rangeT 0 (ps.length : Int)).findSome? fun j =>
          if w.sum < gap cents w ps i - gap cents w ps j ∨ gap cents w ps i - gap cents w ps j = w.sum ∧ j < i then some (.tup [en ("parts" : Str), en i, en j] : D) else none)]
        · exact found_ans rfl
        · intro i mi
          have hi := in_range mi
          rw [Option.bind_some, loopT_find (r := fun j =>
            if w.sum < gap cents w ps i - gap cents w ps j ∨ gap cents w ps i - gap cents w ps j = w.sum ∧ j < i then some (.tup [en ("parts" : Str), en i, en j] : D) else none)]
          · exact sq_found (σ' := Unit) _
          · intro j mj
            have hj := in_range mj
            rw [ga i hi.1 hi.2, Option.bind_some, ga j hj.1 hj.2, Option.bind_some, Option.bind_some, Option.bind_some]
            by_cases q1 : w.sum < gap cents w ps i - gap cents w ps j
            · rw [if_pos (decide_eq_true q1), Option.bind_some, if_pos rfl, if_pos (.inl q1)]; rfl
            · rw [if_neg (by simpa using q1), Option.bind_some]
              by_cases q2 : gap cents w ps i - gap cents w ps j = w.sum ∧ j < i
              · rw [if_pos (by simpa using q2), if_pos (.inr q2)]; rfl
              · rw [if_neg (by simpa using q2), if_neg fun z => z.elim q1 q2]; rfl
end Law

set_option Elab.async false
set_option linter.all false
set_option maxRecDepth 100000
/-! K71h: what is shared has no fault. -/
namespace Law
open PySem PyProof.Rows L2 VL TL
open Ty (en)
variable {cents : Int} {w : List Int}
theorem shr_gap (h : Sh cents w) {k : Int} (h0 : 0 ≤ k) (h1 : k < w.length) : ∃ x, w[k.toNat]? = some x ∧
    gap cents w (shr cents w (lft cents w).toNat) k = rs1 cents w x + (if k ∈ ((rsG cents w).take (lft cents w).toNat).map (·.2) then w.sum else 0) := by
  have hk : k.toNat < w.length := by omega
  refine ⟨w[k.toNat], List.getElem?_eq_getElem hk, ?_⟩
  have e1 : (pts cents w)[k.toNat]? = some (pt cents w w[k.toNat]) := by unfold pts; rw [List.getElem?_map, List.getElem?_eq_getElem hk]; rfl
  have e2 : ((k.toNat : Nat) : Int) = k := by omega
  unfold gap
  rw [shr_get, e1, List.getElem?_eq_getElem hk, e2]
  unfold rs1
  simp only [Option.map_some, Option.getD_some]
  split <;> rw [Int.add_mul] <;> omega
theorem leT_pair {a b : Int × Int} (h : leT a b = true) : a.1 < b.1 ∨ (a.1 = b.1 ∧ a.2 ≤ b.2) := by
  have h' : (!(if b.1 = a.1 then (if b.2 = a.2 then false else decide (b.2 < a.2)) else decide (b.1 < a.1))) = true := h
  by_cases c : b.1 = a.1
  · rw [if_pos c] at h'
    by_cases d : b.2 = a.2
    · right; omega
    · rw [if_neg d] at h'
      simp only [Bool.not_eq_true', decide_eq_false_iff_not] at h'
      right; omega
  · rw [if_neg c] at h'
    simp only [Bool.not_eq_true', decide_eq_false_iff_not] at h'
    left; omega
theorem shr_right (h : Sh cents w) {i j : Int} (hi : 0 ≤ i ∧ i < (w.length : Int)) (hj : 0 ≤ j ∧ j < (w.length : Int)) :
    ¬ (w.sum < gap cents w (shr cents w (lft cents w).toNat) i - gap cents w (shr cents w (lft cents w).toNat) j ∨
      gap cents w (shr cents w (lft cents w).toNat) i - gap cents w (shr cents w (lft cents w).toNat) j = w.sum ∧ j < i) := by
  obtain ⟨x, x1, x2⟩ := shr_gap h hi.1 hi.2
  obtain ⟨y, y1, y2⟩ := shr_gap h hj.1 hj.2
  have bx := rs1_b h x
  have b := rs1_b h y
  have so : (rsG cents w).Pairwise fun a b => leT a b = true := sortT_sorted _
  rw [x2, y2]
  by_cases c : i ∈ ((rsG cents w).take (lft cents w).toNat).map (·.2)
  · by_cases d : j ∈ ((rsG cents w).take (lft cents w).toNat).map (·.2)
    · rw [if_pos c, if_pos d]; omega
    · rw [if_pos c, if_neg d]
      have my : (rs1 cents w y, j) ∈ rsG cents w := rsG_mem.mpr ⟨hj.1, y, y1, rfl⟩
      obtain ⟨p, mp, rfl⟩ := List.mem_map.mp c
      have ep : p.1 = rs1 cents w x := by
        obtain ⟨_, z, z1, z2⟩ := rsG_mem.mp (List.mem_of_mem_take mp)
        rw [x1] at z1; cases z1; exact z2
      rw [← List.take_append_drop (lft cents w).toNat (rsG cents w)] at my so
      rcases List.mem_append.mp my with m | m
      · exact absurd (List.mem_map.mpr ⟨_, m, rfl⟩) d
      · have := leT_pair ((List.pairwise_append.mp so).2.2 p mp _ m)
        dsimp only at this
        omega
  · rw [if_neg c]
    split <;> omega
theorem shr_nn (h : Sh cents w) (t : Nat) : ∀ x ∈ shr cents w t, 0 ≤ x := fun x m => by
  obtain ⟨j, e⟩ := List.mem_iff_getElem?.mp m
  rw [shr_get] at e
  obtain ⟨y, e1, rfl⟩ := Option.map_eq_some_iff.mp e
  have my := List.mem_of_getElem? e1
  unfold pts at my
  obtain ⟨z, mz, rfl⟩ := List.mem_map.mp my
  have : 0 ≤ pt cents w z := Int.ediv_nonneg (Int.mul_nonneg h.c0 (h.w0 z mz)) (Int.le_of_lt h.pos)
  split <;> omega
theorem shr_total (h : Sh cents w) : (shr cents w (lft cents w).toNat).sum = cents := by
  have hb := lft_b h
  rw [shr_sum _ (by omega)]
  have : lft cents w = cents - (pts cents w).sum := rfl
  omega
theorem shF_shr (h : Sh cents w) : shF cents w (shr cents w (lft cents w).toNat) = .non := by
  unfold shF
  rw [if_neg, if_neg (by have := h.pos; omega), if_neg (by rw [shr_total h]; simp), List.findSome?_eq_none_iff.mpr]
  · rfl
  · intro i mi
    have hi := in_range mi
    rw [shr_len] at hi
    refine List.findSome?_eq_none_iff.mpr fun j mj => ?_
    have hj := in_range mj
    rw [shr_len] at hj
    exact if_neg (shr_right h hi hj)
  · rintro (q | ⟨x, m, q⟩)
    · exact q (shr_len _)
    · have := shr_nn h _ x m; omega
end Law

set_option Elab.async false
set_option linter.all false
set_option maxRecDepth 100000
/-! K71i: shared, in all cases. -/
namespace Law
open PySem PyProof.Rows L2 VL TL
open Ty (en)
variable {cents : Int} {w : List Int}
def shOut (cents : Int) (w : List Int) : List Int := if w.sum = 0 then w.map fun _ => 0 else shr cents w (lft cents w).toNat
theorem zeros_sum : ∀ w : List Int, (w.map fun _ => (0 : Int)).sum = 0
  | [] => rfl
  | x :: w => by rw [List.map_cons, List.sum_cons, zeros_sum w]; rfl
theorem sh_of (hc : 0 ≤ cents) (hc1 : cents < 2 ^ 40) (hl : w.length ≤ 100) (h0 : ∀ x ∈ w, 0 ≤ x) (h1 : ∀ x ∈ w, x < 2 ^ 20) (hz : w.sum ≠ 0) : Sh cents w :=
  ⟨hc, hc1, hl, h0, h1, by have := sum_lt h0 h1; omega⟩
theorem both_shared (hc : 0 ≤ cents) (hc1 : cents < 2 ^ 40) (hl : w.length ≤ 100) (h0 : ∀ x ∈ w, 0 ≤ x) (h1 : ∀ x ∈ w, x < 2 ^ 20) :
    T_shared cents w = some (shOut cents w) ∧ T__law_shared cents w = some (shOut cents w) ∧ shF cents w (shOut cents w) = .non ∧ (shOut cents w).length = w.length := by
  by_cases hz : w.sum = 0
  · unfold shOut
    rw [if_pos hz]
    refine ⟨?_, ?_, ?_, List.length_map _⟩
    · unfold T_shared
      rw [Option.bind_some, if_pos (decide_eq_true hz)]; rfl
    · unfold T__law_shared
      rw [Option.bind_some, if_pos (decide_eq_true hz)]; rfl
    · unfold shF
      rw [if_neg, if_pos hz, if_pos (zeros_sum w)]
      rintro (q | ⟨x, m, q⟩)
      · exact q (List.length_map _)
      · obtain ⟨_, _, rfl⟩ := List.mem_map.mp m
        omega
  · have h := sh_of hc hc1 hl h0 h1 hz
    unfold shOut
    rw [if_neg hz]
    exact ⟨shared_ok h, law_shared_ok h, shF_shr h, shr_len _⟩
end Law

set_option Elab.async false
set_option linter.all false
set_option maxRecDepth 100000
/-! K71j: the sets of the law. -/
namespace Law
open PySem PyProof.Rows L2 VL TL
open Ty (en)
variable {rows : List (Int × Int)} {many : Int}
/-- the sets of the first n rows -/
def sets (many : Int) : Nat → List (List Int)
  | 0 => [[]]
  | n + 1 => sets many n ++ ((sets many n).filter fun r => decide ((r.length : Int) < many)).map fun r => r ++ [(n : Int)]
theorem sets_len : ∀ n, (sets many n).length ≤ 2 ^ n
  | 0 => Nat.le_refl _
  | n + 1 => by
    have := sets_len n
    unfold sets
    rw [List.length_append, List.length_map]
    have := List.length_filter_le (fun r : List Int => decide ((r.length : Int) < many)) (sets many n)
    rw [Nat.pow_succ]; omega
theorem sets_mem (hm : 0 ≤ many) : ∀ {n : Nat} {r : List Int}, r ∈ sets many n ↔ r.Pairwise (· < ·) ∧ (∀ k ∈ r, 0 ≤ k ∧ k < (n : Int)) ∧ (r.length : Int) ≤ many
  | 0, r => by
    unfold sets
    rw [List.mem_singleton]
    constructor
    · rintro rfl
      exact ⟨List.Pairwise.nil, fun k m => (by cases m), hm⟩
    · rintro ⟨_, h, _⟩
      cases r with
      | nil => rfl
      | cons k r => have := h k (by simp); omega
  | n + 1, r => by
    unfold sets
    rw [List.mem_append, sets_mem hm]
    constructor
    · rintro (⟨h1, h2, h3⟩ | h)
      · exact ⟨h1, fun k m => by have := h2 k m; omega, h3⟩
      · obtain ⟨q, m, rfl⟩ := List.mem_map.mp h
        obtain ⟨m1, m2⟩ := List.mem_filter.mp m
        obtain ⟨h1, h2, h3⟩ := (sets_mem hm).mp m1
        have m2 := of_decide_eq_true m2
        refine ⟨List.pairwise_append.mpr ⟨h1, List.pairwise_singleton .., fun a ha b hb => ?_⟩, fun k m => ?_, ?_⟩
        · rw [List.mem_singleton.mp hb]; exact (h2 a ha).2
        · rcases List.mem_append.mp m with m | m
          · have := h2 k m; omega
          · rw [List.mem_singleton.mp m]; omega
        · rw [List.length_append, List.length_singleton]; omega
    · rintro ⟨h1, h2, h3⟩
      by_cases c : (n : Int) ∈ r
      · right
        obtain ⟨a, b, rfl⟩ := List.append_of_mem c
        have hb : b = [] := by
          cases b with
          | nil => rfl
          | cons z b =>
            have := (List.pairwise_cons.mp (List.pairwise_append.mp h1).2.1).1 z (by simp)
            have := h2 z (by simp)
            omega
        subst hb
        refine List.mem_map.mpr ⟨a, List.mem_filter.mpr ⟨(sets_mem hm).mpr ⟨(List.pairwise_append.mp h1).1, fun k m => ?_, ?_⟩, ?_⟩, rfl⟩
        · have := (List.pairwise_append.mp h1).2.2 k m n (by simp)
          have := h2 k (by simp [m])
          omega
        · rw [List.length_append, List.length_singleton] at h3; omega
        · rw [List.length_append, List.length_singleton] at h3; exact decide_eq_true (by omega)
      · left
        refine ⟨h1, fun k m => ?_, h3⟩
        have := h2 k m
        have : k ≠ n := fun e => c (e ▸ m)
        omega
end Law

set_option Elab.async false
set_option linter.all false
set_option maxRecDepth 100000
/-! K71k: the draws about shared amounts. -/
namespace Law
open PySem PyProof.Rows L2 VL TL
open Ty (en)
theorem shF_nb (cents : Int) (w ps : List Int) : (shF cents w ps).nb = true ∧ (shF cents w ps).dep ≤ 40 := by
  unfold shF
  split
  · exact ⟨rfl, by decide⟩
  · split
    · split <;> exact ⟨rfl, by decide⟩
    · split
      · exact ⟨rfl, by decide⟩
      · cases e : ((rangeT 0 (ps.length : Int)).findSome? fun i => (rangeT 0 (ps.length : Int)).findSome? fun j =>
          if w.sum < gap cents w ps i - gap cents w ps j ∨ gap cents w ps i - gap cents w ps j = w.sum ∧ j < i then some (.tup [en ("parts" : Str), en i, en j] : D) else none) with
        | none => exact ⟨rfl, by decide⟩
        | some z =>
          obtain ⟨i, _, e⟩ := List.exists_of_findSome?_eq_some e
          obtain ⟨j, _, e⟩ := List.exists_of_findSome?_eq_some e
          split at e
          · cases e; exact ⟨rfl, by show D.dep (.tup [_, _, _]) ≤ 40; simp [D.dep, D.depL, Ty.en]⟩
          · cases e
theorem same_shF {cents : Int} {w ps : List Int} (h : Sh0 cents w ps) : ((T_shared_fault cents w ps).bind fun a => (T__law_shared_fault cents w ps).bind fun b => neDT a b) = some false := by
  rw [prog_shF h, law_shF h, Option.bind_some, Option.bind_some]
  exact neDT_self (shF_nb ..).1 (shF_nb ..).2
theorem shares_true (Q : Bool → Prop) (q : Q true) : T__law_shares_right Q := by
  unfold T__law_shares_right
  rw [ansM_app]
  simp only [bnd_ret, bnd_bnd, bnd_app, ret_app, lift_some, bndF_app]
  refine takeT_i (by omega) (by omega) fun a1 ha1 hb1 => ?_
  refine lift_i (a := 1000000) (by decide) ?_
  refine takeT_i (by omega) (by omega) fun a9 ha9 hb9 => ?_
  refine takeT_i (by omega) (by omega) fun b18 hc1 hc2 => ?_
  refine pick_i hc1 (by simpa using hc2) fun cents hcents => ?_
  have hcb : 0 ≤ cents ∧ cents < 1000000 := by
    simp only [List.mem_cons, List.not_mem_nil, or_false] at hcents
    omega
  refine takeT_i (by omega) (by omega) fun n hn1 hn2 => ?_
  refine lift_i (rngT_ok (by omega)) ?_
  refine compDr_i (fun x : Int => 0 ≤ x ∧ x < 30) (fun k _ R hR => ?_) fun w hwl hw => ?_
  · refine takeT_i (by omega) (by omega) fun b h0 h1 => ?_
    refine pick_i h0 (by simpa using h1) fun m hm => ?_
    simp only [List.mem_cons, List.not_mem_nil, or_false] at hm
    refine takeT_i (by omega) (by omega) fun x h2 h3 => hR x (by omega)
  · have hl : w.length ≤ 100 := by
      rw [hwl, rangeT_len]; omega
    obtain ⟨s1, s2, s3, s4⟩ := both_shared (cents := cents) (w := w) hcb.1 (by omega) hl (fun x m => (hw x m).1) fun x m => by have := (hw x m).2; omega
    refine lift_i s1 ?_
    refine lift_i s2 ?_
    have h0 : Sh0 cents w (shOut cents w) := ⟨by omega, hl, fun x m => (hw x m).1, fun x m => by have := (hw x m).2; omega, by omega⟩
    refine lift_i (a := false) ?_ ?_
    · rw [if_neg (by simp), prog_shF h0, s3]; rfl
    · rw [if_neg (by simp)]
      simp only [bnd_app, bndF_app]
      refine lift_i (rngT_ok (by omega)) ?_
      refine loopDr_u (fun _ => True) trivial (fun k _ s _ R k1 k2 k3 k4 => ?_) fun s _ => q
      have fin : ∀ ps : List Int, ps.length ≤ 100 → lift ((T_shared_fault cents w ps).bind fun v117 => (T__law_shared_fault cents w ps).bind fun v119 => (neDT v117 v119).bind fun v121 => if v121 = true then some (Flow.rt false) else some (Flow.nx ())) R := fun ps hp => by
        have h1 : Sh0 cents w ps := ⟨by omega, hl, fun x m => (hw x m).1, fun x m => by have := (hw x m).2; omega, hp⟩
        rw [prog_shF h1, law_shF h1, Option.bind_some, Option.bind_some, neDT_self (shF_nb ..).1 (shF_nb ..).2, Option.bind_some, if_neg (by simp)]
        exact lift_i rfl (k1 () trivial)
      rw [bndF_app]
      by_cases c : 0 < (shOut cents w).length
      · rw [if_pos (by simp; omega)]
        simp only [bnd_app]
        refine takeT_i (by omega) (by omega) fun x h1 h2 => takeT_i (by omega) (by omega) fun y h3 h4 => ?_
        refine lift_i (a := (shOut cents w).set x.toNat ((shOut cents w)[x.toNat]'(by omega) + 1)) ?_ ?_
        · rw [atI_pos h1, List.getElem?_eq_getElem (by omega), Option.bind_some, putT_ok h1 h2]
        · refine pick_i h3 (by rw [List.length_set]; exact h4) fun z _ => ?_
          refine takeT_i (by omega) (by omega) fun u h5 h6 => pick_i h5 (by simpa using h6) fun v _ => ?_
          refine lift_i (putT_ok h3 (by rw [List.length_set]; exact h4)) ?_
          refine takeT_i (by omega) (by omega) fun g h7 h8 => ?_
          have lp : ∀ zz : Int, (((shOut cents w).set x.toNat ((shOut cents w)[x.toNat]'(by omega) + 1)).set y.toNat zz).length ≤ 100 := fun zz => by rw [List.length_set, List.length_set]; omega
          by_cases c2 : 0 < g
          · rw [if_pos (by simpa using c2)]
            exact fin _ (lp _)
          · rw [if_neg (by simpa using c2)]
            refine fin _ ?_
            rw [cut_from _ (by omega), List.length_drop]
            have := lp (z - v)
            omega
      · rw [if_neg (by simpa using c)]
        exact fin _ (by omega)
end Law

set_option Elab.async false
set_option linter.all false
set_option maxRecDepth 100000
/-! K71l: what a worst case costs, by the law's own count. -/
namespace Law
open PySem PyProof.Rows L2 VL TL
open Ty (en)
variable {rows : List (Int × Int)} {many : Int}
theorem sorted_uniq {a b : List Int} (p : a.Perm b) (ha : a.Pairwise (· ≤ ·)) (hb : b.Pairwise (· ≤ ·)) : a = b :=
  List.Perm.eq_of_pairwise (le := (· ≤ ·)) (fun x y _ _ h1 h2 => Int.le_antisymm h1 h2) ha hb p
theorem sum_neg : ∀ l : List Int, (l.map fun x => -x).sum = - l.sum
  | [] => rfl
  | x :: l => by rw [List.map_cons, List.sum_cons, sum_neg l, List.sum_cons]; omega
def wL (rows : List (Int × Int)) : List (Int × Int) := (enumT rows).map fun x1 => ((x1.2.1 - x1.2.2), x1.1)
def wT (rows : List (Int × Int)) (many : Int) : List (Int × Int) := (sortT (wL rows)).take many.toNat
theorem wL_fst : (wL rows).map (·.1) = rows.map fun p => p.1 - p.2 := by
  unfold wL
  rw [List.map_map]
  have : (enumT rows).map (·.2) = rows := by
    apply List.ext_getElem?
    intro i
    rw [List.getElem?_map]
    cases e : (enumT rows)[i]? with
    | none =>
      have := List.getElem?_eq_none_iff.mp e
      rw [enumT_len] at this
      rw [List.getElem?_eq_none this]; rfl
    | some p => rw [Option.map_some, (enumT_get e).2]
  conv => rhs; rw [← this, List.map_map]
  rfl
theorem sortT_fst_sorted (l : List (Int × Int)) : ((sortT l).map (·.1)).Pairwise (· ≤ ·) := List.pairwise_map.mpr ((sortT_sorted l).imp fun h => leT_fst h)
theorem law_worst_ok (hr : rows.length ≤ 1000) (hm : 0 ≤ many) : T__law_worst rows many = some ((rows.map (·.1)).sum - ((wT rows many).map (·.1)).sum) := by
  unfold T__law_worst
  rw [sortO_ok (by rw [List.length_map]; omega), Option.bind_some, Option.bind_some, cut_to _ hm]
  have e : (sortT (rows.map fun x => x.2 - x.1)).reverse.map (fun x => -x) = (sortT (wL rows)).map (·.1) := by
    refine sorted_uniq ?_ ?_ (sortT_fst_sorted _)
    · refine List.Perm.trans ?_ ((sortT_perm (wL rows)).map _).symm
      rw [wL_fst]
      refine ((List.reverse_perm _).map _).trans (((sortT_perm _).map _).trans ?_)
      rw [List.map_map]
      refine List.Perm.of_eq (List.map_congr_left fun p _ => ?_)
      simp only [Function.comp]; omega
    · rw [List.pairwise_map, List.pairwise_reverse]
      exact (sortT_le _).imp fun h => by omega
  have e2 : ((wT rows many).map (·.1)).sum = - ((sortT (rows.map fun x => x.2 - x.1)).reverse.take many.toNat).sum := by
    unfold wT
    rw [List.map_take, ← e, ← List.map_take, sum_neg]
  rw [e2]
  show some _ = some _
  congr 1
  omega
theorem wL_mem {p : Int × Int} (m : p ∈ wL rows) : p.1 = - gn rows p.2 ∧ ∃ q ∈ rows, p.1 = q.1 - q.2 := by
  unfold wL at m
  obtain ⟨q, m', rfl⟩ := List.mem_map.mp m
  obtain ⟨h1, h2⟩ := enumT_mem.mp m'
  refine ⟨?_, q.2, List.mem_of_getElem? h2, rfl⟩
  unfold gn
  dsimp only
  rw [h2]; show _ = -(q.2.2 - q.2.1); omega
theorem sum_flt : ∀ {l : List (Int × Int)}, (∀ p ∈ l, p.1 = - gn rows p.2 ∧ p.1 ≤ 0) → sg rows ((l.filter fun x5 => decide (x5.1 < (0 : Int))).map (·.2)) = - (l.map (·.1)).sum
  | [], _ => rfl
  | p :: l, h => by
    have ih := sum_flt (l := l) fun q m => h q (List.mem_cons_of_mem _ m)
    obtain ⟨h1, h2⟩ := h p (by simp)
    rw [List.map_cons, List.sum_cons]
    by_cases c : p.1 < 0
    · rw [List.filter_cons_of_pos (p := fun x5 : Int × Int => decide (x5.1 < (0 : Int))) (decide_eq_true c), List.map_cons]
      unfold sg at ih ⊢
      rw [List.map_cons, List.sum_cons, ih]; omega
    · rw [List.filter_cons_of_neg (p := fun x5 : Int × Int => decide (x5.1 < (0 : Int))) (by simpa using c), ih]; omega
theorem worst_cost (hr : rows.length ≤ 1000) (hm : 0 ≤ many) (hg : ∀ p ∈ rows, p.1 ≤ p.2) {X : Int} {c : List Int} (h : T_worst rows many = some (X, c)) : T__law_worst rows many = some X := by
  rw [law_worst_ok hr hm]
  obtain ⟨c', e, _⟩ := worst_ok hr hm
  have hb : ∀ p ∈ wT rows many, p.1 = - gn rows p.2 ∧ p.1 ≤ 0 := fun p m => by
    obtain ⟨h1, q, mq, h2⟩ := wL_mem ((sortT_perm _).mem_iff.mp (List.mem_of_mem_take m))
    have := hg q mq
    exact ⟨h1, by omega⟩
  unfold T_worst at h
  rw [show (List.map (fun (x1 : (Int × (Int × Int))) => ((x1.2.1 - x1.2.2), x1.1)) (enumT rows)) = wL rows from rfl, sortO_ok (by unfold wL; rw [List.length_map, enumT_len]; omega), Option.bind_some, Option.bind_some, cut_to _ hm, show List.take many.toNat (sortT (wL rows)) = wT rows many from rfl] at h
  have hK : (((wT rows many).filter fun x5 => decide (x5.1 < (0 : Int))).map (·.2)).length ≤ 1000 := by
    rw [List.length_map]
    have h1 := List.length_filter_le (fun x5 : Int × Int => decide (x5.1 < (0 : Int))) (wT rows many)
    have h2 : (wT rows many).length ≤ (wL rows).length := by
      unfold wT
      rw [List.length_take, (sortT_perm _).length_eq]; omega
    have h3 : (wL rows).length = rows.length := by unfold wL; rw [List.length_map, enumT_len]
    omega
  rw [sortO_ok (by omega), Option.bind_some, Option.bind_some, map_gn fun k m => ?_, Option.bind_some] at h
  · have h := Option.some.inj h
    have e1 : sumG rows (sortT (((wT rows many).filter fun x5 => decide (x5.1 < (0 : Int))).map (·.2))) = X := congrArg Prod.fst h
    rw [← e1, sumG_sg, sg_perm (sortT_perm _), sum_flt hb]
    congr 1
  · have m := (sortT_perm _).mem_iff.mp m
    obtain ⟨p, mp, rfl⟩ := List.mem_map.mp m
    have := List.mem_of_mem_take (List.mem_filter.mp mp).1
    have := (sortT_perm _).mem_iff.mp this
    unfold wL at this
    obtain ⟨q, mq, rfl⟩ := List.mem_map.mp this
    obtain ⟨h1, h2⟩ := enumT_mem.mp mq
    have := (List.getElem?_eq_some_iff.mp h2).1
    exact ⟨h1, by show q.1 < _; omega⟩
end Law

set_option Elab.async false
set_option linter.all false
set_option maxRecDepth 100000
/-! K71m: offers. -/
namespace Law
open PySem PyProof.Rows L2 VL TL
open Ty (en)
/-- rows as they are drawn -/
structure Of (r : List (Int × Int)) : Prop where
  len : r.length ≤ 7
  le : ∀ p ∈ r, p.1 ≤ p.2
def cst (many : Int) (r : List (Int × Int)) : Int := (T__law_worst r many).getD 0
theorem cst_law {r : List (Int × Int)} {many : Int} (h : Of r) (hm : 0 ≤ many) : T__law_worst r many = some (cst many r) := by
  unfold cst
  rw [law_worst_ok (by have := h.len; omega) hm]; rfl
theorem cst_worst {r : List (Int × Int)} {many : Int} (h : Of r) (hm : 0 ≤ many) : ∃ c, T_worst r many = some (cst many r, c) := by
  obtain ⟨c, e, _⟩ := worst_ok (rows := r) (many := many) (by have := h.len; omega) hm
  have := worst_cost (by have := h.len; omega) hm h.le e
  refine ⟨c, ?_⟩
  rw [e]
  have e2 := cst_law h hm
  rw [this] at e2
  rw [Option.some.inj e2]
variable {os : List (List (Int × Int))} {many : Int}
theorem costs_law (h : ∀ r ∈ os, Of r) (hm : 0 ≤ many) : mapT (fun x => T__law_worst x many) os = some (os.map (cst many)) := mapT_some fun r m => cst_law (h r m) hm
theorem costs_prog (h : ∀ r ∈ os, Of r) (hm : 0 ≤ many) : mapT (fun x1 => (T_worst x1 many).bind fun v2 => some v2.1) os = some (os.map (cst many)) := mapT_some fun r m => by
  obtain ⟨c, e⟩ := cst_worst (h r m) hm
  rw [e]; rfl
theorem idxT_ex {α : Type} [DecidableEq α] {x : α} : ∀ {xs : List α}, x ∈ xs → ∃ j, idxT x xs = some j
  | y :: ys, h => by
    by_cases c : y = x
    · exact ⟨0, by show (if y = x then some 0 else _) = _; rw [if_pos c]⟩
    · obtain ⟨j, e⟩ := idxT_ex ((List.mem_cons.mp h).resolve_left fun q => c q.symm)
      exact ⟨j + 1, by show (if y = x then some 0 else (idxT x ys).map (· + 1)) = _; rw [if_neg c, e]; rfl⟩
/-- the least cost, and where it is first -/
theorem least (h0 : os ≠ []) (many : Int) : ∃ m i, minT (os.map (cst many)) = some m ∧ indexT (os.map (cst many)) m = some i := by
  obtain ⟨m, e, h1, _⟩ := minT_ex (xs := os.map (cst many)) (by simpa using h0)
  obtain ⟨j, e2⟩ := idxT_ex h1
  exact ⟨m, j, e, by unfold indexT; rw [e2]; rfl⟩
theorem offer_ok (h : ∀ r ∈ os, Of r) (hm : 0 ≤ many) {m i : Int} (e1 : minT (os.map (cst many)) = some m) (e2 : indexT (os.map (cst many)) m = some i) : T_offer os many = some (i, m) := by
  unfold T_offer
  rw [costs_prog h hm, Option.bind_some, Option.bind_some, e1, Option.bind_some, e2, Option.bind_some, Option.bind_some]
  rfl
theorem regret_ok (h : ∀ r ∈ os, Of r) (hm : 0 ≤ many) {m : Int} (e1 : minT (os.map (cst many)) = some m) : T_regret os many = some ((os.map (cst many)).map fun x => x - m) := by
  unfold T_regret
  rw [costs_prog h hm, Option.bind_some, Option.bind_some, mapT_some (f := fun x => x - m) fun x _ => by rw [e1]; rfl]
  rfl
end Law

set_option Elab.async false
set_option linter.all false
set_option maxRecDepth 100000
/-! K71n: levels. -/
namespace Law
open PySem PyProof.Rows L2 VL TL
open Ty (en)
variable {os : List (List (Int × Int))}
/-- the first offer that costs the least -/
def bst (os : List (List (Int × Int))) (x : Int) : Int := ((minT (os.map (cst x))).bind fun m => indexT (os.map (cst x)) m).getD 0
theorem bst_ok (h0 : os ≠ []) (x : Int) : ∃ m, minT (os.map (cst x)) = some m ∧ indexT (os.map (cst x)) m = some (bst os x) := by
  obtain ⟨m, i, e1, e2⟩ := least h0 x
  refine ⟨m, e1, ?_⟩
  unfold bst
  rw [e1, Option.bind_some, e2]; rfl
def lastNe (due : List (Int × Int)) (b : Int) : Bool := match due.getLast? with
  | none => true
  | some p => !decide (p.2 = b)
def stp (os : List (List (Int × Int))) (due : List (Int × Int)) (x : Int) : List (Int × Int) := if lastNe due (bst os x) = true then due ++ [(x, bst os x)] else due
theorem stp_len (due : List (Int × Int)) (x : Int) : (stp os due x).length ≤ due.length + 1 := by
  unfold stp
  split
  · rw [List.length_append]; simp
  · omega
theorem last_prog (due : List (Int × Int)) (b : Int) : (if (!(!due.isEmpty)) = true then some true else (atI due (-(1 : Int))).bind fun v13 => some (!decide (v13.2 = b))) = some (lastNe due b) := by
  unfold lastNe
  cases due with
  | nil => rfl
  | cons p due =>
    rw [if_neg (by simp), atI_neg1]
    cases e : (p :: due).getLast? with
    | none => simp at e
    | some q => rfl
theorem last_law (due : List (Int × Int)) (b : Int) : (if (decide ((due.length : Int) = (0 : Int))) = true then some true else (atI due (-(1 : Int))).bind fun v13 => some (!decide (v13.2 = b))) = some (lastNe due b) := by
  unfold lastNe
  cases due with
  | nil => rfl
  | cons p due =>
    rw [if_neg (by simp; omega), atI_neg1]
    cases e : (p :: due).getLast? with
    | none => simp at e
    | some q => rfl
theorem fold_pair {α β γ : Type} {g : β → α → β} {k : α → γ} : ∀ {xs : List α} {c : γ} {b : β}, ((xs.foldl (fun (s : γ × β) x => (k x, g s.2 x)) (c, b))).2 = xs.foldl g b
  | [], _, _ => rfl
  | x :: xs, c, b => fold_pair (xs := xs)
theorem levels_ok (h0 : os ≠ []) (h : ∀ r ∈ os, Of r) {n : Int} (hn : maxT (os.map fun x1 => (x1.length : Int)) = some n) (hb : 0 ≤ n ∧ n ≤ 100) : T_levels os = some ((rangeT 0 (n + 1)).foldl (stp os) []) := by
  unfold T_levels
  rw [hn, Option.bind_some, Option.bind_some, rngT_ok (by omega), Option.bind_some]
  obtain ⟨fl, e1, e2⟩ := loopT_ok (body := fun (x9 : Int) (s8 : (List (Int × Int))) => ((T_offer os x9).bind fun v10 => some v10.1).bind fun best_12 => (if (!(!s8.isEmpty)) = true then some true else (atI s8 (-(1 : Int))).bind fun v13 => some (!decide (v13.2 = best_12))).bind fun v15 => if v15 = true then (apT s8 (x9, best_12)).bind fun found_17 => some (.nx found_17) else some (.nx s8))
    (P := fun (fl : Flow (List (Int × Int)) Empty (List (Int × Int))) => fl = .nx ((rangeT 0 (n + 1)).foldl (stp os) []))
    (fun done s => s = done.foldl (stp os) [] ∧ s.length ≤ done.length) (xs := rangeT 0 (n + 1)) (done := []) (s := []) ⟨rfl, by simp⟩ (fun pre x post s he ⟨i1, i2⟩ => by
      obtain ⟨hx, hp⟩ := rangeT_split he
      obtain ⟨m, m1, m2⟩ := bst_ok h0 x
      refine ⟨.nx (stp os s x), ?_, ?_, ?_⟩
      · rw [offer_ok h (by omega) m1 m2, Option.bind_some, Option.bind_some, last_prog, Option.bind_some]
        unfold stp
        by_cases c : lastNe s (bst os x) = true
        · rw [if_pos c, if_pos c, apT_ok (by omega), Option.bind_some]
        · rw [if_neg c, if_neg c]
      · rw [List.foldl_append, ← i1]; rfl
      · have := stp_len (os := os) s x
        rw [List.length_append, List.length_singleton]; omega) (fun s ⟨i1, _⟩ => by rw [i1]; rfl)
  rw [e1, e2]
  rfl
theorem due_ok (h0 : os ≠ []) (h : ∀ r ∈ os, Of r) {n : Int} (hb : 0 ≤ n ∧ n ≤ 100) (c0 : List Int) : ∃ c, (loopT (fun (x128 : Int) (s127 : (List Int) × (List (Int × Int))) => ((mapT (fun (x129 : (List (Int × Int))) => T__law_worst x129 x128) os).bind fun v132 => some v132).bind fun costs_134 => ((minT costs_134).bind fun v135 => indexT costs_134 v135).bind fun best_139 => (if (decide ((s127.2.length : Int) = (0 : Int))) = true then some true else (atI s127.2 (-(1 : Int))).bind fun v140 => some (!decide (v140.2 = best_139))).bind fun v142 => if v142 = true then (apT s127.2 (x128, best_139)).bind fun due_144 => some (.nx (costs_134, due_144)) else some (.nx (costs_134, s127.2))) (rangeT 0 (n + 1)) (c0, []) : Option (Flow ((List Int) × (List (Int × Int))) Empty Bool)) = some (.nx (c, (rangeT 0 (n + 1)).foldl (stp os) [])) := by
  obtain ⟨fl, e1, c, e2⟩ := loopT_ok (body := fun (x128 : Int) (s127 : (List Int) × (List (Int × Int))) => ((mapT (fun (x129 : (List (Int × Int))) => T__law_worst x129 x128) os).bind fun v132 => some v132).bind fun costs_134 => ((minT costs_134).bind fun v135 => indexT costs_134 v135).bind fun best_139 => (if (decide ((s127.2.length : Int) = (0 : Int))) = true then some true else (atI s127.2 (-(1 : Int))).bind fun v140 => some (!decide (v140.2 = best_139))).bind fun v142 => if v142 = true then (apT s127.2 (x128, best_139)).bind fun due_144 => some (.nx (costs_134, due_144)) else some (.nx (costs_134, s127.2)))
    (P := fun (fl : Flow ((List Int) × (List (Int × Int))) Empty Bool) => ∃ c, fl = .nx (c, (rangeT 0 (n + 1)).foldl (stp os) []))
    (fun done s => s.2 = done.foldl (stp os) [] ∧ s.2.length ≤ done.length) (xs := rangeT 0 (n + 1)) (done := []) (s := (c0, [])) ⟨rfl, by simp⟩ (fun pre x post s he ⟨i1, i2⟩ => by
      obtain ⟨hx, hp⟩ := rangeT_split he
      obtain ⟨m, m1, m2⟩ := bst_ok h0 x
      refine ⟨.nx (os.map (cst x), stp os s.2 x), ?_, ?_, ?_⟩
      · rw [costs_law h (by omega), Option.bind_some, Option.bind_some, m1, Option.bind_some, m2, Option.bind_some, last_law, Option.bind_some]
        unfold stp
        by_cases c : lastNe s.2 (bst os x) = true
        · rw [if_pos c, if_pos c, apT_ok (by omega), Option.bind_some]
        · rw [if_neg c, if_neg c]
      · rw [List.foldl_append, ← i1]; rfl
      · have := stp_len (os := os) s.2 x
        show (stp os s.2 x).length ≤ _
        rw [List.length_append, List.length_singleton]; omega) (fun s ⟨i1, _⟩ => ⟨s.1, by
        have : s.2 = (rangeT 0 (n + 1)).foldl (stp os) [] := i1
        rw [← this]⟩)
  exact ⟨c, by rw [e1, e2]⟩
end Law

set_option Elab.async false
set_option linter.all false
set_option maxRecDepth 100000
/-! K71o: what is drawn. -/
namespace Law
open PySem PyProof.Rows L2 VL TL
open Ty (en)
theorem offer_draw (Q : List (Int × Int) → Prop) (q : ∀ r, Of r → Q r) : T__law_offer Q := by
  unfold T__law_offer
  rw [ansM_app]
  simp only [bnd_ret, bnd_bnd, bnd_app, ret_app, lift_some, bndF_app]
  refine takeT_i (by omega) (by omega) fun n hn1 hn2 => ?_
  refine lift_i (rngT_ok (by omega)) ?_
  refine loopDr_k (fun done s => s.length ≤ done.length ∧ ∀ p ∈ s, p.1 ≤ p.2) (done := []) ⟨by simp, by simp⟩ ?_ ?_
  · rintro pre x post s he ⟨i1, i2⟩ R k1 k2 k3 k4
    obtain ⟨_, hp⟩ := rangeT_split he
    simp only [bnd_ret, bnd_bnd, bnd_app, ret_app, lift_some]
    refine takeT_i (by omega) (by omega) fun low h1 h2 => ?_
    refine takeT_i (by omega) (by omega) fun up h3 h4 => ?_
    refine takeT_i (by omega) (by omega) fun b h5 h6 => pick_i h5 (by simpa using h6) fun v hv => ?_
    have hv0 : 0 ≤ v := by
      simp only [List.mem_cons, List.not_mem_nil, or_false] at hv
      omega
    refine lift_i (apT_ok (by omega)) (k1 _ ⟨by rw [List.length_append, List.length_append, List.length_singleton, List.length_singleton]; omega, fun p m => ?_⟩)
    rcases List.mem_append.mp m with m | m
    · exact i2 p m
    · rw [List.mem_singleton.mp m]; show low ≤ low + v; omega
  · rintro s ⟨i1, i2⟩
    refine q s ⟨?_, i2⟩
    rw [List.nil_append, rangeT_len] at i1
    omega
end Law

set_option Elab.async false
set_option linter.all false
set_option maxRecDepth 100000
/-! K71q: the sets, judged. -/
namespace Law
open PySem PyProof.Rows L2 VL TL
open Ty (en)
variable {rows : List (Int × Int)} {many : Int}
theorem sets_loop (hr : rows.length ≤ 7) : (loopT (fun (x15 : Int) (s14 : (List (List Int))) => ((compT (fun (x16 : (List Int)) => some (decide ((x16.length : Int) < many))) (fun (x16 : (List Int)) => addL x16 [x15]) s14).bind fun v19 => addL s14 v19).bind fun sets_23 => some (.nx sets_23)) (rangeT 0 (rows.length : Int)) [([] : List Int)] : Option (Flow (List (List Int)) Empty Bool)) = some (.nx (sets many rows.length)) := by
  obtain ⟨fl, e1, e2⟩ := loopT_ok (body := fun (x15 : Int) (s14 : (List (List Int))) => ((compT (fun (x16 : (List Int)) => some (decide ((x16.length : Int) < many))) (fun (x16 : (List Int)) => addL x16 [x15]) s14).bind fun v19 => addL s14 v19).bind fun sets_23 => some (.nx sets_23))
    (P := fun (fl : Flow (List (List Int)) Empty Bool) => fl = .nx (sets many rows.length))
    (fun done s => s = sets many done.length ∧ done.length ≤ 7 ∧ ∀ r ∈ s, r.length ≤ done.length) (xs := rangeT 0 (rows.length : Int)) (done := []) (s := [[]]) ⟨rfl, by simp, by simp⟩ (fun pre x post s he ⟨i1, i2, i3⟩ => by
      obtain ⟨hx, hp⟩ := rangeT_split he
      have hl := sets_len (many := many) pre.length
      rw [← i1] at hl
      have h2 : 2 ^ pre.length ≤ 2 ^ 7 := Nat.pow_le_pow_right (by omega) i2
      have hf := List.length_filter_le (fun r : List Int => decide ((r.length : Int) < many)) s
      refine ⟨.nx (sets many (pre.length + 1)), ?_, ?_⟩
      · rw [compT_some (b := fun r => decide ((r.length : Int) < many)) (f := fun r => r ++ [x]) (fun r _ => rfl) fun r m _ => addL_ok (by have := i3 r m; simp; omega), Option.bind_some, addL_ok (by rw [List.length_map]; omega), Option.bind_some]
        have : x = (pre.length : Int) := by omega
        rw [i1, this]
        rfl
      · refine ⟨by rw [List.length_append]; rfl, by rw [List.length_append, List.length_singleton]; omega, fun r m => ?_⟩
        rw [List.length_append, List.length_singleton]
        unfold sets at m
        rw [← i1] at m
        rcases List.mem_append.mp m with m | m
        · have := i3 r m; omega
        · obtain ⟨q, mq, rfl⟩ := List.mem_map.mp m
          have := i3 q (List.mem_filter.mp mq).1
          rw [List.length_append, List.length_singleton]; omega) (fun s ⟨i1, _⟩ => by
        rw [List.nil_append, rangeT_len] at i1
        rw [i1]
        congr 2)
  rw [e1, e2]
theorem faultF_nb (told : Int × List Int) : (faultF rows many told).nb = true ∧ (faultF rows many told).dep ≤ 40 := by
  unfold faultF
  split
  · exact ⟨rfl, by decide⟩
  · split
    · exact ⟨rfl, by decide⟩
    · split
      · exact ⟨rfl, by decide⟩
      · cases e : ((rangeT 0 (rows.length : Int)).findSome? fun k => if k ∉ told.2 ∧ lst rows many told.2 < gn rows k then some (.tup [en ("dearer" : Str), en k] : D) else none) with
        | none => exact ⟨rfl, by decide⟩
        | some z =>
          obtain ⟨k, _, e⟩ := List.exists_of_findSome?_eq_some e
          split at e
          · cases e; exact ⟨rfl, by show D.dep (.tup [_, _]) ≤ 40; simp [D.dep, D.depL, Ty.en]⟩
          · cases e
theorem nonD_iff {d : D} : nonD d = true ↔ d = .non := by
  cases d <;> simp [nonD]
theorem gn_nn (h : Of rows) (k : Int) : 0 ≤ gn rows k := by
  unfold gn
  cases e : rows[k.toNat]? with
  | none => exact Int.le_refl _
  | some p => have := h.le p (List.mem_of_getElem? e); show 0 ≤ p.2 - p.1; omega
theorem opt_of_worst (h : Of rows) (hm : many ≠ 0) {c : List Int} (hw : ∀ k : Int, 0 ≤ k → k < rows.length → k ∉ c → ((c.length : Int) = many ∧ ∀ j ∈ c, gn rows k ≤ gn rows j) ∨ gn rows k ≤ 0) : LocOpt rows many c := by
  intro k h0 h1 nk
  by_cases hq : (c.length : Int) = many
  · obtain ⟨⟨j, mj, ej⟩, _⟩ := lst_spec (rows := rows) hm hq
    rw [ej]
    rcases hw k h0 h1 nk with q | q
    · exact q.2 j mj
    · have := gn_nn h j; omega
  · rw [show lst rows many c = 0 from if_neg hq]
    rcases hw k h0 h1 nk with q | q
    · exact absurd q.1 hq
    · exact q
theorem pw_lt_sort {r : List Int} (h : r.Pairwise (· < ·)) : r.Nodup ∧ r = sortT (ddup r) := by
  have nd : r.Nodup := h.imp fun h e => by omega
  exact ⟨nd, by rw [ddup_nodup nd, sortT_id (h.imp fun h => by omega)]⟩
theorem sort_pw {c : List Int} (h : c = sortT (ddup c)) : c.Nodup ∧ c.Pairwise (· < ·) := by
  have nd : c.Nodup := by rw [h]; exact (sortT_perm _).nodup_iff.mpr (nodup_ddup c)
  refine ⟨nd, ?_⟩
  have s : c.Pairwise (· ≤ ·) := by rw [h]; exact sortT_le _
  exact List.Pairwise.imp₂ (fun a b h1 h2 => by have : a ≠ b := h2; omega) s nd
end Law

set_option Elab.async false
set_option linter.all false
set_option maxRecDepth 100000
/-! K71r: the law of worst cases. -/
namespace Law
open PySem PyProof.Rows L2 VL TL
open Ty (en)
variable {rows : List (Int × Int)} {many : Int}
/-- what worst tells, told at once -/
structure Wo (rows : List (Int × Int)) (many : Int) (c : List Int) : Prop where
  srt : c = sortT (ddup c)
  inn : ∀ k ∈ c, 0 ≤ k ∧ k < (rows.length : Int)
  len : (c.length : Int) ≤ many
  lr : c.length ≤ rows.length
  opt : many = 0 ∨ LocOpt rows many c
theorem worst_all (h : Of rows) (hm : 0 ≤ many) : ∃ c, T_worst rows many = some (sumG rows c, c) ∧ Wo rows many c := by
  obtain ⟨c, e, h1, h2, h3, h4, h5⟩ := worst_ok (rows := rows) (many := many) (by have := h.len; omega) hm
  refine ⟨c, e, h1, h2, h3, h4, ?_⟩
  by_cases q : many = 0
  · exact .inl q
  · exact .inr (opt_of_worst h q h5)
theorem told_right {c : List Int} (w : Wo rows many c) : faultF rows many (sumG rows c, c) = .non := faultF_non.mpr ⟨⟨w.srt, w.inn, w.len⟩, rfl, w.opt⟩
theorem most (h : Of rows) (hm : 0 ≤ many) {c S : List Int} (w : Wo rows many c) (nS : S.Nodup) (iS : ∀ k ∈ S, 0 ≤ k ∧ k < (rows.length : Int)) (lS : (S.length : Int) ≤ many) : sg rows S ≤ sg rows c := by
  rcases w.opt with q | q
  · have e1 : S = [] := List.eq_nil_of_length_eq_zero (by omega)
    have e2 : c = [] := List.eq_nil_of_length_eq_zero (by have := w.len; omega)
    rw [e1, e2]; exact Int.le_refl _
  · by_cases q0 : many = 0
    · have e1 : S = [] := List.eq_nil_of_length_eq_zero (by omega)
      have e2 : c = [] := List.eq_nil_of_length_eq_zero (by have := w.len; omega)
      rw [e1, e2]; exact Int.le_refl _
    · exact best (gn_nn h) q0 (sort_pw w.srt).1 w.len q nS iS lS
theorem sets_small : ∀ {n : Nat} {r : List Int}, r ∈ sets many n → r.length ≤ n
  | 0, r, m => by rw [List.mem_singleton.mp m]; exact Nat.le_refl _
  | n + 1, r, m => by
    unfold sets at m
    rcases List.mem_append.mp m with m | m
    · have := sets_small m; omega
    · obtain ⟨q, mq, rfl⟩ := List.mem_map.mp m
      have := sets_small (List.mem_filter.mp mq).1
      rw [List.length_append, List.length_singleton]; omega
theorem judged (h : Of rows) (hm : 0 ≤ many) {c S : List Int} (w : Wo rows many c) (mS : S ∈ sets many rows.length) :
    sumG rows S ≤ sumG rows c ∧ (sumG rows S = sumG rows c ↔ faultF rows many (sumG rows S, S) = .non) := by
  obtain ⟨p1, p2, p3⟩ := (sets_mem hm).mp mS
  obtain ⟨nS, sS⟩ := pw_lt_sort p1
  have le := most h hm w nS p2 p3
  rw [faultF_non, sumG_sg, sumG_sg]
  refine ⟨by omega, fun e => ⟨⟨sS, p2, p3⟩, rfl, ?_⟩, fun ⟨_, _, o⟩ => ?_⟩
  · by_cases q : many = 0
    · exact .inl q
    · refine .inr (opt_of_best (gn_nn h) q hm nS p2 p3 fun e1 n1 i1 l1 => ?_)
      have := most h hm w n1 i1 l1
      omega
  · rcases o with q | q
    · have e1 : S = [] := List.eq_nil_of_length_eq_zero (by omega)
      have e2 : c = [] := List.eq_nil_of_length_eq_zero (by have := w.len; omega)
      rw [e1, e2]
    · have := most h hm (c := S) ⟨sS, p2, p3, sets_small mS, .inr q⟩ (sort_pw w.srt).1 w.inn w.len
      omega
theorem told_in (hm : 0 ≤ many) {c : List Int} (w : Wo rows many c) : c ∈ sets many rows.length := (sets_mem hm).mpr ⟨(sort_pw w.srt).2, w.inn, w.len⟩
theorem both_fault (h : Of rows) (hm : 0 ≤ many) {told : Int × List Int} (hc : told.2.length < 64) : ((T_worst_fault rows many told).bind fun a => (T__law_fault rows many told).bind fun b => neDT a b) = some false := by
  rw [worst_fault_eq (by have := h.len; omega) hm hc, law_fault_eq (by have := h.len; omega) hm hc, Option.bind_some, Option.bind_some]
  exact neDT_self (faultF_nb _).1 (faultF_nb _).2
theorem set_small (h : Of rows) (hm : 0 ≤ many) {S : List Int} (mS : S ∈ sets many rows.length) : S.length < 64 := by
  have := sets_small mS
  have := h.len
  omega
end Law

set_option Elab.async false
set_option linter.all false
set_option maxRecDepth 100000
/-! K71s: the law. -/
namespace Law
open PySem PyProof.Rows L2 VL TL
open Ty (en)
/-- a loop that nothing stops -/
theorem loopT_pass {α σ' ρ : Type} {body : α → Unit → Option (Flow Unit Unit ρ)} : ∀ {xs : List α}, (∀ x ∈ xs, body x () = some (.nx ())) → (loopT body xs () : Option (Flow Unit σ' ρ)) = some (.nx ())
  | [], _ => rfl
  | x :: xs, h => by
    rw [loopT_nx (h x (List.mem_cons_self ..))]
    exact loopT_pass fun y m => h y (List.mem_cons_of_mem _ m)
theorem law_goal : T_law fun b => b = true := by
  unfold T_law
  rw [ansM_app]
  simp only [bnd_ret, bnd_bnd, bnd_app, ret_app, lift_some, bndF_app]
  refine offer_draw _ fun rows hR => ?_
  refine takeT_i (by omega) (by omega) fun many hm hm5 => ?_
  obtain ⟨c, ec, w⟩ := worst_all hR hm
  have hl := hR.len
  refine lift_i ec ?_
  refine lift_i (rngT_ok (by omega)) ?_
  refine lift_i (sets_loop hl) ?_
  show lift _ _
  have hcs : (mapT (fun (x25 : (List Int)) => (mapT (fun (x27 : Int) => (atI rows x27).bind fun v28 => (atI rows x27).bind fun v30 => some (v28.2 - v30.1)) x25).bind fun v32 => some (((List.map (fun (x26 : (Int × Int)) => x26.1) rows).sum) + v32.sum)) (sets many rows.length)) = some ((sets many rows.length).map (sumG rows)) := mapT_some fun S m => by
    rw [map_gn ((sets_mem hm).mp m).2.1]; rfl
  refine lift_i (a := (sets many rows.length).map (sumG rows)) (by rw [hcs]; rfl) ?_
  have hmax : maxT ((sets many rows.length).map (sumG rows)) = some (sumG rows c) := maxT_int (List.mem_map.mpr ⟨c, told_in hm w, rfl⟩) fun x m => by
    obtain ⟨S, mS, rfl⟩ := List.mem_map.mp m
    exact (judged hR hm w mS).1
  have hr1 : rows.length ≤ 1000 := by omega
  have hc64 : c.length < 64 := by have := w.lr; omega
  refine lift_i (a := false) ?_ ?_
  · rw [if_neg (by simp), hmax, Option.bind_some, if_neg (by simp), law_fault_eq hr1 hm hc64, Option.bind_some, told_right w, if_neg (by simp [nonD]), worst_fault_eq hr1 hm hc64, Option.bind_some, told_right w]; rfl
  simp only [wpr]
  refine iteN (by simp) ?_
  have hsl : (sets many rows.length).length ≤ 128 := Nat.le_trans (sets_len _) (Nat.pow_le_pow_right (n := 2) (by omega) hl)
  refine rngL (by omega) ?_
  refine loopLu (fun _ => True) trivial (fun x mx _ _ R h1 h2 h3 h4 => ?_) (fun _ _ => ?_)
  · obtain ⟨x0, x1⟩ := mem_rangeT.mp mx
    obtain ⟨S, e1, e2⟩ := atI_ok (xs := sets many rows.length) x0 x1
    have mS : S ∈ sets many rows.length := List.mem_of_getElem? e2
    have e3 : atI ((sets many rows.length).map (sumG rows)) x = some (sumG rows S) := by
      rw [atI_pos x0, List.getElem?_map, e2]; rfl
    have hS64 := set_small hR hm mS
    have b := both_fault hR hm (told := (sumG rows S, S)) hS64
    rw [worst_fault_eq hr1 hm hS64, law_fault_eq hr1 hm hS64, Option.bind_some, Option.bind_some] at b
    rw [e3, e1, Option.bind_some, Option.bind_some, worst_fault_eq hr1 hm hS64, Option.bind_some, Option.bind_some, Option.bind_some, law_fault_eq hr1 hm hS64, Option.bind_some, b]
    simp only [wpr, Option.bind_some]
    refine iteN (by simp) ?_
    refine lift_i (worst_fault_eq hr1 hm hS64) ?_
    refine iteN ?_ (h1 _ trivial)
    have jd := (judged hR hm w mS).2
    by_cases q : sumG rows S = sumG rows c
    · rw [nonD_iff.mpr (jd.mp q)]; simp [q]
    · have : nonD (faultF rows many (sumG rows S, S)) = false := by
        rw [Bool.eq_false_iff]; exact fun z => q (jd.mpr (nonD_iff.mp z))
      rw [this]; simp [q]
  · simp only [wpr]
    refine addLL (by simp; omega) ?_
    have fb : ∀ told : Int × List Int, told.2.length < 64 → ((T_worst_fault rows many told).bind fun a => (T__law_fault rows many told).bind fun b => neDT a b) = some false := fun told h => both_fault hR hm h
    refine loopLu (fun _ => True) trivial (fun x mx _ _ R h1 h2 h3 h4 => ?_) (fun _ _ => ?_)
    · have hx : x.2.length < 64 := by
        simp only [List.mem_cons, List.not_mem_nil, or_false] at mx
        rcases mx with rfl | rfl | rfl | rfl
        · exact hc64
        · simpa using hc64
        · have := w.lr
          simp; omega
        · simp
      have b := fb x hx
      rw [worst_fault_eq hr1 hm hx, law_fault_eq hr1 hm hx, Option.bind_some, Option.bind_some] at b
      rw [worst_fault_eq hr1 hm hx, Option.bind_some, law_fault_eq hr1 hm hx, Option.bind_some, b]
      simp only [wpr]
      exact iteN (by simp) (h1 _ trivial)
    · simp only [wpr]
      refine takeT_i (by omega) (by omega) fun n hn hn4 => ?_
      refine rngL (by omega) ?_
      refine compDr_i Of (fun x _ R hR' => offer_draw _ hR') fun os' hl' hp => ?_
      refine addLL (by rw [hl', rangeT_len]; simp; omega) ?_
      generalize ho : [rows] ++ os' = os
      have h0 : os ≠ [] := by rw [← ho]; simp
      have hos : ∀ r ∈ os, Of r := by
        rw [← ho]
        intro r m
        rcases List.mem_cons.mp m with rfl | m
        · exact hR
        · exact hp r m
      refine lift_i (costs_law hos hm) ?_
      obtain ⟨m, i, m1, m2⟩ := least h0 many
      refine lift_i (offer_ok hos hm m1 m2) ?_
      refine lift_i m1 ?_
      refine lift_i m2 ?_
      refine lift_i m1 ?_
      simp only [wpr]
      refine iteN (by simp) ?_
      refine lift_i (regret_ok hos hm m1) ?_
      refine mapL (fun x => x - m) (fun x _ => by simp only [wpr]; exact lift_i m1 rfl) ?_
      refine iteN (by simp) ?_
      obtain ⟨nn, hnn⟩ := maxT_ne (xs := os.map fun x1 => (x1.length : Int)) (by simpa using h0)
      have hb : 0 ≤ nn ∧ nn ≤ 100 := by
        obtain ⟨k1, _⟩ := maxT_some hnn
        obtain ⟨r, mr, rfl⟩ := List.mem_map.mp k1
        have := (hos r mr).len
        omega
      refine lift_i hnn ?_
      refine rngL (by omega) ?_
      obtain ⟨c', dk⟩ := due_ok h0 hos hb (os.map (cst many))
      simp only [wpr] at dk
      refine lift_i dk ?_
      simp only [wpr]
      refine lift_i (a := ((2 : Int), (10 : Int))) (by decide) ?_
      refine iteN (by simp) ?_
      refine lift_i (levels_ok h0 hos hnn hb) ?_
      refine iteY rfl ?_
      refine shares_true _ ?_
      exact iteY rfl trivial
theorem law_true : LawTrue 19 d_law := law_typed law_goal
end Law

set_option maxHeartbeats 4000000
namespace Law
open PySem PyProof.Rows L2 VL
section
variable {P : Program} {w : World} {K : PySem.W.Frag} {mg : Str → Option Value} {base : Heap} {fa : Nat → Addr} {fda : Nat → FuncData}
theorem okx__law_state {f : Addr} {fd : FuncData} (F : Fun K "_law_state" "_law_state" s__law_state f fd) (m_abs : mg "abs" = none) (m_len : mg "len" = none) : FnOk P w K mg base CX0 1 f fd ["script"] (spState K) := by
  refine F.ok sc__law_state (fun vs H Q E ⟨a, ns, ev, _⟩ => by rw [ev]; rfl) (fun cdv A outer s H vs Q E hr ⟨a, ns, ev, hS, hl, kk⟩ => ?_)
  subst ev
  refine ⟨_, pss_cons (ps_setLc (i := 1) (own := [("cell", 2)]) (g := gName 2) (tt := tYes) rfl sc__law_state.nd rfl rfl (sw_true rfl rfl rfl (by decide +kernel)) (pi_list (pe_slice sl_list (pv 0) po_none (po_some pe_int))) (blkOk_by (N := ["script", "cells", "cell"]) (sc := defScope s__law_state) (by decide +kernel)) (fun _ _ _ _ _ => pg_name (i := 2) sc__law_state.nd rfl (Or.inl rfl)) (fun _ _ _ _ _ => pts_nil)
      (fun _ _ _ _ _ => pe_callB call_abs (by rfl) m_abs (by decide +kernel) (pa_cons (pv 2) pa_nil)))
    (pss_cons (ps_if (pt_cmpR op_eq (pe_callB call_len_seq (by rfl) m_len PySem.boot_len (pa_cons (pv 1) pa_nil)) pe_int (nomark _)) (pss_one (ps_set (i := 1) sc__law_state.nd rfl (Or.inl rfl) (pe_lst (pa_cons pe_int pa_nil)))) pss_nil)
    (pss_one (ps_ret (pe_lst (pa_cons pe_int (pa_cons (pv 1) pa_nil)))))), ?_⟩
  obtain ⟨ms, hms⟩ : ∃ ms : List Int, cutV (ns.map V.int) none (some 63) = ms.map V.int := ⟨(ns.drop (HT.sIx ns.length 0 none)).take (HT.sIx ns.length ns.length (some 63) - HT.sIx ns.length 0 none), by
    unfold cutV; rw [List.map_take, List.map_drop, List.length_map]⟩
  refine ⟨.ref a, rfl, 63, rfl, a, _, rfl, hS, ?_⟩
  rw [hms]
  refine fun p np => ⟨p, rfl, ⟨_, SqL.of upd_same⟩, fun D nD => ?_⟩
  have hpD : p ≠ D := fun e => by rw [e, upd_same] at nD; cases nD
  have nD0 : H D = none := by rw [upd_ne hpD.symm] at nD; exact nD
  have fin : ∀ (cs : List Int) (q : Addr) (H2 : Hp) (v2 : Option V), cs ≠ [] → Same H H2 → H q = none → H2 q = some (.lst (cs.map V.int)) → ∀ l, H2 l = none → Q (.ref l) (upd H2 l (.lst [.int 0, .ref q])) := fun cs q H2 v2 hc sm hq h2 l hl => by
    have nq : q ≠ l := ne_of_none h2 hl
    exact kk l q cs _ (sm.trans (same_upd hl)) (sm.free hl) hq (fun e => nq e.symm) upd_same (by rw [upd_ne nq]; exact h2) hc
  have tail : ∀ (cs : List Int) (H1 : Hp) (v2 : Option V), Same H H1 → H1 D = some (.lst (cs.map V.int)) →
      (tSeq (tIfS (tTest (tOp rEq (tCB (fun xs H Q => ∃ p ys, xs = [.ref p] ∧ (SqL K H p ys ∨ SqT K H p ys) ∧ Q (.int ys.length) H) (tCons (tVar 1) tNil)) (tC (.int 0)))) (tAsg (tLst (tCons (tC (.int 0)) tNil)) (gName 1)) tNext) (tRet (tLst (tCons (tC (.int 0)) (tCons (tVar 1) tNil))))) { nx := fun _ H' => Q .non H', rt := Q } [some (.ref a), some (.ref D), v2] H1 := fun cs H1 v2 sm h1 => by
    refine ⟨_, rfl, D, _, rfl, .inl (SqL.of h1), rfl, _, rfl, ite2 (fun e => ?_) (fun e => ?_)⟩
    · refine ⟨by decide, fun q nq => ?_⟩
      refine ⟨_, rfl, small_line (by show 2 < 1000; decide), fun l hl => ?_⟩
      refine fin [0] q _ none (by simp) (sm.trans (same_upd nq)) (sm.free nq) upd_same l hl
    · refine ⟨_, rfl, small_line (by show 2 < 1000; decide), fun l hl => fin cs D H1 none (fun z => e ?_) sm nD0 h1 l hl⟩
      subst z
      rfl
  have hlen : ms.length ≤ 63 := by
    have := cutV_length (ns.map V.int) none (some 63)
    rw [hms, List.length_map, List.length_map] at this
    omega
  have hp0 : (upd (upd H p (.lst (ms.map V.int))) D (.lst [])) p = some (.lst (ms.map V.int)) := by rw [upd_ne hpD, upd_same]
  refine lc_list (K := K) (a := p) (xs := ms.map V.int) (fun i H1 => ∃ cs : List Int, Same H H1 ∧ H1 p = some (.lst (ms.map V.int)) ∧ H1 D = some (.lst (cs.map V.int)) ∧ cs.length ≤ i)
    ⟨[], (same_upd np).trans (same_upd nD), hp0, upd_same, Nat.le_refl _⟩ (fun i H1 _ ⟨cs, _, h, _, _⟩ => SqL.of h) ?_ ?_
  · rintro i x H1 hi ⟨cs, sm, h1, h2, hc⟩
    obtain ⟨z, rfl⟩ : ∃ z, x = V.int z := by
      rw [List.getElem?_map] at hi
      obtain ⟨z, _, rfl⟩ := Option.map_eq_some_iff.mp hi
      exact ⟨z, rfl⟩
    have hi' : i < ms.length := by
      have := (List.getElem?_eq_some_iff.mp hi).1
      rwa [List.length_map] at this
    refine ⟨rfl, ?_⟩
    unfold tYes
    dsimp only
    rw [if_pos rfl]
    refine ⟨_, rfl, _, rfl, cs.map V.int, h2, by rw [List.length_map]; exact Nat.lt_of_le_of_lt (Nat.le_trans hc (by omega : i ≤ 63)) (by decide), cs ++ [if z < 0 then -z else z], ?_, ?_, ?_, ?_⟩
    · exact fun b o e => by rw [upd_ne (ne_of_none e nD0)]; exact sm _ _ e
    · rw [upd_ne hpD]; exact h1
    · rw [upd_same, List.map_append]; rfl
    · rw [List.length_append, List.length_singleton]; omega
  · rintro H1 ⟨cs, sm, h1, h2, hc⟩
    exact tail cs H1 _ sm h2
theorem okx__law_take {f : Addr} {fd : FuncData} (F : Fun K "_law_take" "_law_take" s__law_take f fd) (m_int : mg "int" = none) (m_len : mg "len" = none) : FnOk P w K mg base CX0 1 f fd ["state", "most"] (spI K takeS) := by
  refine F.ok sc__law_take (fun vs H Q E ⟨G, p, ws, s0, l0, ds, d, s1, _, ev, _, _, _, l, e, _⟩ => ?_) (fun cdv A outer s H vs Q E hr ⟨G, p, ws, s0, l0, ds, d, s1, sub, ev, sl, nd, off, l, e, kk⟩ => ?_)
  · obtain ⟨n, cs, m, _, rfl, _⟩ := takeS_some e
    rw [ev, List.length_cons, l.length]; rfl
  · obtain ⟨n, cs, m, rfl, rfl, h0, hm, hc, ez⟩ := takeS_some e
    cases ez
    subst ev
    cases l with
    | cons l1 l2 =>
    cases l2
    cases l1
    cases sl with
    | @ol _ vs _ Fx hp sx =>
    cases sx with
    | @cons v0 _ F0 vs0 _ F1 a1 a2 =>
    cases a1 with
    | fz a1 =>
    cases a1
    cases a2 with
    | @cons v1 _ F2 vs1 _ F3 b1 b2 =>
    cases b2
    cases b1 with
    | @ol q us _ Fy hq sy =>
    obtain ⟨ry, rfl⟩ := slRs_rp sy
    obtain rfl := ry.ints
    have hpq : p ≠ q := by
      have := List.nodup_cons.mp nd
      intro z; subst z
      exact this.1 (by simp)
    have nd' : [p, q].Nodup := by simp [hpq]
    have gp : G p = none := off p (by simp)
    have gq : G q = none := off q (by simp)
    refine ⟨_, pss_cons (ps_set (i := 2) sc__law_take.nd rfl (Or.inl rfl) (pe_ix ix_list (pv 0) pe_int (fun _ _ => rfl)))
      (pss_cons (ps_set (i := 3) sc__law_take.nd rfl (Or.inl rfl) (pe_op op_mod (pe_ix ix_list (pv 0) pe_int (fun _ _ => rfl)) (pe_callB call_len_seq (by rfl) m_len PySem.boot_len (pa_cons (pv 2) pa_nil))))
      (pss_cons (ps_set (i := 4) sc__law_take.nd rfl (Or.inl rfl) (pe_ix ix_list (pv 2) (pv 3) (fun _ _ => rfl)))
      (pss_cons (ps_if (pt_cmpR op_ge (pv 4) pe_int (nomark _)) (pss_cons (ps_asg (pe_op op_fdivW (pv 4) (pv 1)) (pg_sub (pv 2) (pv 3) set_list)) (pss_one (ps_ret (pe_op op_mod (pv 4) (pv 1))))) pss_nil)
      (pss_cons (ps_asg (pe_op op_add (pe_ix ix_list (pv 0) pe_int (fun _ _ => rfl)) pe_int) (pg_sub (pv 0) pe_int set_list))
      (pss_cons (ps_set (i := 5) sc__law_take.nd rfl (Or.inl rfl) (pe_op op_mod (pe_callTy call_int1 (by rfl) m_int (by decide +kernel) (pa_cons (pe_op op_add (pe_op op_mul (pv 4) pe_int) (pe_op op_mul (pe_ix ix_list (pv 0) pe_int (fun _ _ => rfl)) pe_int)) pa_nil)) pe_int))
      (pss_cons (ps_set (i := 5) sc__law_take.nd rfl (Or.inl rfl) (pe_op op_mod (pe_callTy call_int1 (by rfl) m_int (by decide +kernel) (pa_cons (pe_op op_add (pe_op op_mul (pv 5) pe_int) (pe_op op_mul (pe_ix ix_list (pv 0) pe_int (fun _ _ => rfl)) pe_int)) pa_nil)) pe_int))
      (pss_one (ps_ret (pe_op op_mod (pe_op op_fdiv (pv 5) pe_int) (pv 1)))))))))), ?_⟩
    have hlen : 0 < cs.length := List.length_pos_iff.mpr hc
    have hat0 : 0 ≤ n % (cs.length : Int) := Int.emod_nonneg _ (by omega)
    have hat1 : n % (cs.length : Int) < cs.length := Int.emod_lt_of_pos _ (by omega)
    obtain ⟨j, hj⟩ : ∃ j : Nat, n % (cs.length : Int) = (j : Int) := ⟨(n % (cs.length : Int)).toNat, by omega⟩
    have hj' : n % ((cs.map V.int).length : Int) = (j : Int) := by rw [List.length_map]; exact hj
    have hjl : j < cs.length := by omega
    have hix : atI (cs.map V.int) (j : Int) = some (.int (cs.getD j 0)) := by
      apply L2.atI_nat
      rw [List.getElem?_map, List.getElem?_eq_getElem hjl]
      simp [List.getD, List.getElem?_eq_getElem hjl]
    have hixN : ixN (cs.map V.int).length (j : Int) = some j := by
      unfold ixN
      rw [List.length_map, if_pos (by omega), if_pos (by omega)]; rfl
    have etk : takeF n cs m = (if 1000000000000000000 ≤ cs.getD j 0 then (cs.getD j 0 % m, n, cs.set j (cs.getD j 0 / m)) else
        ((((cs.getD j 0 * 48271 + (n + 1) * 69621) % 2147483647 * 16807 + (n + 1) * 7919) % 1000000007) / 7 % m, n + 1, cs)) := by
      unfold takeF
      rw [hj]
      rfl
    rw [etk] at kk
    refine ⟨_, rfl, p, [.int n, .ref q], 1, .ref q, rfl, rfl, SqL.of hp, rfl, ?_⟩
    refine ⟨_, rfl, p, [.int n, .ref q], 0, .int n, rfl, rfl, SqL.of hp, rfl, _, rfl, q, _, rfl, .inl (SqL.of hq), n, _, rfl, rfl, by rw [List.length_map]; omega, ?_⟩
    dsimp only
    rw [hj']
    refine ⟨_, rfl, _, rfl, q, _, j, _, rfl, rfl, SqL.of hq, hix, ?_⟩
    refine ⟨_, rfl, _, _, rfl, rfl, _, rfl, ite2 (fun cd => ?_) (fun cd => ?_)⟩
    · have cd' : (1000000000000000000 : Int) ≤ cs.getD j 0 := of_decide_eq_true cd
      rw [if_pos cd'] at kk
      refine ⟨_, rfl, _, rfl, _, _, rfl, rfl, ⟨h0, hm⟩, _, rfl, _, rfl, q, _, (j : Int), j, rfl, rfl, hq, hixN, ?_⟩
      refine ⟨_, rfl, _, rfl, _, _, rfl, rfl, h0, ?_⟩
      refine kk _ G _ [p, q] (Same.refl _) (fun b o e => ?_) (fun b o e n => ?_) (fun b e => .inl e) ?_ nd' (fun a m' => ?_) (.int _)
      · rw [upd_ne (ne_of_none e gq)]; exact sub _ _ e
      · rw [upd_ne fun z => n (by rw [z]; simp)]; exact e
      · refine SlR.ol (F := [q]) (by rw [upd_ne hpq]; exact hp) (SlRs.cons (F := []) (F' := [q]) (.fz (.int _)) (SlRs.cons (F := [q]) (F' := []) (SlR.ol (F := []) (vs := (cs.set j (cs.getD j 0 / m)).map V.int) ?_ (slRs_fz (RpL.of_ints _))) .nil))
        rw [upd_same, List.map_set]
      · have m2 : a = p ∨ a = q := by simpa using m'
        rcases m2 with rfl | rfl
        · exact ⟨gp, .inl (by simp)⟩
        · exact ⟨gq, .inl (by simp)⟩
    · have cd' : ¬ (1000000000000000000 : Int) ≤ cs.getD j 0 := fun z => cd (decide_eq_true z)
      rw [if_neg cd'] at kk
      refine ⟨_, rfl, p, [.int n, .ref q], 0, .int n, rfl, rfl, SqL.of hp, rfl, n, 1, rfl, rfl, _, rfl, p, [.int n, .ref q], 0, 0, rfl, rfl, hp, rfl, ?_⟩
      have hp2 : (upd H p (.lst [.int (n + 1), .ref q])) p = some (.lst [.int (n + 1), .ref q]) := upd_same
      refine ⟨_, rfl, _, _, rfl, rfl, .inr ⟨by decide, by decide⟩, _, rfl, p, _, 0, .int (n + 1), rfl, rfl, SqL.of hp2, rfl, _, _, rfl, rfl, .inr ⟨by decide, by decide⟩, _, _, rfl, rfl, .inl ⟨_, rfl, ?_⟩⟩
      refine ⟨_, _, rfl, rfl, (by decide : (0 : Int) < 2147483647), ?_⟩
      refine ⟨_, rfl, _, _, rfl, rfl, .inr ⟨by decide, by decide⟩, _, rfl, p, _, 0, .int (n + 1), rfl, rfl, SqL.of hp2, rfl, _, _, rfl, rfl, .inr ⟨by decide, by decide⟩, _, _, rfl, rfl, .inl ⟨_, rfl, ?_⟩⟩
      refine ⟨_, _, rfl, rfl, (by decide : (0 : Int) < 1000000007), ?_⟩
      refine ⟨_, rfl, _, _, rfl, rfl, ⟨by decide, by decide⟩, _, rfl, _, _, rfl, rfl, h0, ?_⟩
      refine kk _ G _ [p, q] (Same.refl _) (fun b o e => ?_) (fun b o e n => ?_) (fun b e => .inl e) ?_ nd' (fun a m' => ?_) (.int _)
      · rw [upd_ne (ne_of_none e gp)]; exact sub _ _ e
      · rw [upd_ne fun z => n (by rw [z]; simp)]; exact e
      · exact SlR.ol (F := [q]) upd_same (SlRs.cons (F := []) (F' := [q]) (.fz (.int _)) (SlRs.cons (F := [q]) (F' := []) (SlR.ol (F := []) (vs := cs.map V.int) (by rw [upd_ne (Ne.symm hpq)]; exact hq) (slRs_fz (RpL.of_ints _))) .nil))
      · have m2 : a = p ∨ a = q := by simpa using m'
        rcases m2 with rfl | rfl
        · exact ⟨gp, .inl (by simp)⟩
        · exact ⟨gq, .inl (by simp)⟩
end
section
variable {P : Program} {w : World} {K : PySem.W.Frag} {mg : Str → Option Value} {base : Heap} {fa : Nat → Addr} {fda : Nat → FuncData}
theorem ok__law_state (T : TX K mg fa fda) : FnOk P w K mg base CX0 1 (fa 8) (fda 8) ["script"] (spState K) := okx__law_state T.d__law_state.F T.b_abs T.b_len
theorem ok__law_take (T : TX K mg fa fda) : FnOk P w K mg base CX0 1 (fa 9) (fda 9) ["state", "most"] (spI K takeS) := okx__law_take T.d__law_take.F T.b_int T.b_len
theorem ok_worst (T : TX K mg fa fda) : FnOk P w K mg base CX0 1 (fa 0) (fda 0) ["rows", "many"] (spS K F_worst) := by
  have h := fn_ok (P := P) (w := w) (mg := mg) (base := base) (fb := d_worst) (k := 0) T.d_worst.F sc_worst (fun cdv A outer s H E hr =>
    (b_cons (s_set 2 sc_worst.nd (PL.v (l_callB (c_sorted hr) (by rfl) T.b_sorted (by decide +kernel) (a_cons (PL.v (xl_comp [("at", 3), ("low", 4), ("high", 5)] [3, 4, 5] rfl rfl sc_worst.nd (IV.c (i_enum (by rfl) T.b_enumerate (v_name 0))) (blkOk_by (N := ["rows", "many", "gains", "at", "low", "high", "chosen", "gain"]) (sc := defScope s_worst) (by decide +kernel)) (fun _ _ _ _ _ => (g_tup rfl (gs_cons (g_name 3 sc_worst.nd) (gs_cons (g_tup rfl (gs_cons (g_name 4 sc_worst.nd) (gs_cons (g_name 5 sc_worst.nd) gs_nil))) gs_nil)))) (by decide) (fun _ _ _ _ _ => tbs_nil) (fun _ _ _ _ _ => (v_tup (a_cons (v_op o_sub (v_name 4) (v_name 5)) (a_cons (v_name 3) a_nil)))))) a_nil))))
    (b_cons (s_set 6 sc_worst.nd (PL.v (l_callB (c_sorted hr) (by rfl) T.b_sorted (by decide +kernel) (a_cons (PL.v (xl_comp [("gain", 7), ("at", 3)] [7, 3] rfl rfl sc_worst.nd (IV.c (i_seq (PL.v (l_slice (v_name 2) s_none (s_some (PV.w (v_name 1))))))) (blkOk_by (N := ["rows", "many", "gains", "at", "low", "high", "chosen", "gain"]) (sc := defScope s_worst) (by decide +kernel)) (fun _ _ _ _ _ => (g_tup rfl (gs_cons (g_name 7 sc_worst.nd) (gs_cons (g_name 3 sc_worst.nd) gs_nil)))) (by decide) (fun _ _ _ _ _ => (TB.one (t_cmp o_lt (PV.w (v_name 7)) (PV.w v_int) (nomark _)))) (fun _ _ _ _ _ => (v_name 3)))) a_nil))))
    (b_one (s_ret (v_tup (a_cons (v_op o_add (v_callB (c_sum rfl) (by rfl) T.b_sum (by decide +kernel) (aw_cons (PV.w (PL.v (xl_comp [("low", 4), ("high", 5)] [4, 5] rfl rfl sc_worst.nd (IV.c (i_seq (v_name 0))) (blkOk_by (N := ["rows", "many", "gains", "at", "low", "high", "chosen", "gain"]) (sc := defScope s_worst) (by decide +kernel)) (fun _ _ _ _ _ => (g_tup rfl (gs_cons (g_name 4 sc_worst.nd) (gs_cons (g_name 5 sc_worst.nd) gs_nil)))) (by decide) (fun _ _ _ _ _ => tbs_nil) (fun _ _ _ _ _ => (v_name 4))))) aw_nil)) (v_callB (c_sum rfl) (by rfl) T.b_sum (by decide +kernel) (aw_cons (PV.w (PL.v (xl_comp [("at", 3)] [3] rfl rfl sc_worst.nd (IV.c (i_seq (v_name 6))) (blkOk_by (N := ["rows", "many", "gains", "at", "low", "high", "chosen", "gain"]) (sc := defScope s_worst) (by decide +kernel)) (fun _ _ _ _ _ => (g_name 3 sc_worst.nd)) (by decide) (fun _ _ _ _ _ => tbs_nil) (fun _ _ _ _ _ => (v_op o_sub (v_ix hr (v_ix hr (v_name 0) (v_name 3)) v_int) (v_ix hr (v_ix hr (v_name 0) (v_name 3)) v_int)))))) aw_nil))) (a_cons (v_name 6) a_nil))))))))
  exact h
theorem ok_worst_fault (T : TX K mg fa fda) : FnOk P w K mg base CX0 1 (fa 1) (fda 1) ["rows", "many", "told"] (spS K F_worst_fault) := by
  have h := fn_ok (P := P) (w := w) (mg := mg) (base := base) (fb := d_worst_fault) (k := 0) T.d_worst_fault.F sc_worst_fault (fun cdv A outer s H E hr =>
    (b_cons (s_tg (v_name 2) (g_tup rfl (gs_cons (g_name 3 sc_worst_fault.nd) (gs_cons (g_name 4 sc_worst_fault.nd) gs_nil))))
    (b_cons (s_if (TW.t (tw_or (t_cmp (o_ne hr) (PV.w (v_name 4)) (PV.w (PL.v (l_setSo rfl hr (by rfl) T.b_sorted (by rfl) T.b_set (v_name 4)))) (nomark _)) (tw_or (t_not (t_tru (PV.w (v_callB (c_all rfl) (by rfl) T.b_all (by decide +kernel) (aw_cons (PV.w (PL.v (xl_comp [("at", 5)] [5] rfl rfl sc_worst_fault.nd (IV.c (i_seq (v_name 4))) (blkOk_by (N := ["rows", "many", "told", "cost", "chosen", "at", "total", "low", "high", "least"]) (sc := defScope s_worst_fault) (by decide +kernel)) (fun _ _ _ _ _ => (g_name 5 sc_worst_fault.nd)) (by decide) (fun _ _ _ _ _ => tbs_nil) (fun _ _ _ _ _ => (v_chain o_le o_lt (PV.w v_int) (PV.w (v_name 5)) (PV.w (v_callB c_len (by rfl) T.b_len (by decide +kernel) (aw_cons (PV.w (v_name 0)) aw_nil)))))))) aw_nil))))) (tw_or1 (t_cmp o_gt (PV.w (v_callB c_len (by rfl) T.b_len (by decide +kernel) (aw_cons (PV.w (v_name 4)) aw_nil))) (PV.w (v_name 1)) (nomark _)))))) (b_one (s_ret (v_tup (a_cons v_str a_nil)))) b_nil)
    (b_cons (s_set 6 sc_worst_fault.nd (v_op o_add (v_callB (c_sum rfl) (by rfl) T.b_sum (by decide +kernel) (aw_cons (PV.w (PL.v (xl_comp [("low", 7), ("high", 8)] [7, 8] rfl rfl sc_worst_fault.nd (IV.c (i_seq (v_name 0))) (blkOk_by (N := ["rows", "many", "told", "cost", "chosen", "at", "total", "low", "high", "least"]) (sc := defScope s_worst_fault) (by decide +kernel)) (fun _ _ _ _ _ => (g_tup rfl (gs_cons (g_name 7 sc_worst_fault.nd) (gs_cons (g_name 8 sc_worst_fault.nd) gs_nil)))) (by decide) (fun _ _ _ _ _ => tbs_nil) (fun _ _ _ _ _ => (v_name 7))))) aw_nil)) (v_callB (c_sum rfl) (by rfl) T.b_sum (by decide +kernel) (aw_cons (PV.w (PL.v (xl_comp [("at", 5)] [5] rfl rfl sc_worst_fault.nd (IV.c (i_seq (v_name 4))) (blkOk_by (N := ["rows", "many", "told", "cost", "chosen", "at", "total", "low", "high", "least"]) (sc := defScope s_worst_fault) (by decide +kernel)) (fun _ _ _ _ _ => (g_name 5 sc_worst_fault.nd)) (by decide) (fun _ _ _ _ _ => tbs_nil) (fun _ _ _ _ _ => (v_op o_sub (v_ix hr (v_ix hr (v_name 0) (v_name 5)) v_int) (v_ix hr (v_ix hr (v_name 0) (v_name 5)) v_int)))))) aw_nil))))
    (b_cons (s_if (t_cmp (o_ne hr) (PV.w (v_name 6)) (PV.w (v_name 3)) (nomark _)) (b_one (s_ret (v_tup (a_cons v_str a_nil)))) b_nil)
    (b_cons (s_if (t_cmp (o_eq hr) (PV.w (v_name 1)) (PV.w v_int) (nomark _)) (b_one (s_ret v_non)) b_nil)
    (b_cons (s_set 9 sc_worst_fault.nd (v_if (t_cmp (o_eq hr) (PV.w (v_callB c_len (by rfl) T.b_len (by decide +kernel) (aw_cons (PV.w (v_name 4)) aw_nil))) (PV.w (v_name 1)) (nomark _)) (v_minDf hr (by rfl) T.b_min (PL.v (xl_comp [("at", 5)] [5] rfl rfl sc_worst_fault.nd (IV.c (i_seq (v_name 4))) (blkOk_by (N := ["rows", "many", "told", "cost", "chosen", "at", "total", "low", "high", "least"]) (sc := defScope s_worst_fault) (by decide +kernel)) (fun _ _ _ _ _ => (g_name 5 sc_worst_fault.nd)) (by decide) (fun _ _ _ _ _ => tbs_nil) (fun _ _ _ _ _ => (v_op o_sub (v_ix hr (v_ix hr (v_name 0) (v_name 5)) v_int) (v_ix hr (v_ix hr (v_name 0) (v_name 5)) v_int))))) v_int) v_int))
    (b_cons (s_for PassesOwn.never rfl (i_enum (by rfl) T.b_enumerate (v_name 0)) (g_tup rfl (gs_cons (g_name 5 sc_worst_fault.nd) (gs_cons (g_tup rfl (gs_cons (g_name 7 sc_worst_fault.nd) (gs_cons (g_name 8 sc_worst_fault.nd) gs_nil))) gs_nil))) (b_one (s_if (TW.t (tw_and (t_cmp (o_notin hr) (PV.w (v_name 5)) (PV.w (v_name 4)) (by rfl)) (tw_and1 (t_cmp o_gt (PV.w (v_op o_sub (v_name 8) (v_name 7))) (PV.w (v_name 9)) (nomark _))))) (b_one (s_ret (v_tup (a_cons v_str (a_cons (v_name 5) a_nil))))) b_nil)))
    (b_one (s_ret v_non))))))))))
  exact h
theorem ok_offer (T : TX K mg fa fda) : FnOk P w K mg base CX0 2 (fa 2) (fda 2) ["offers", "many"] (spS K F_offer) := by
  have h := fn_ok (P := P) (w := w) (mg := mg) (base := base) (fb := d_offer) (k := 1) T.d_offer.F sc_offer (fun cdv A outer s H E hr =>
    (b_cons (xs_setC 2 [("rows", 3)] [3] rfl rfl sc_offer.nd (IV.c (i_seq (v_name 0))) (blkOk_by (N := ["offers", "many", "costs", "rows"]) (sc := defScope s_offer) (by decide +kernel)) (fun _ _ _ _ _ => (g_name 3 sc_offer.nd)) (by decide) (fun _ _ _ _ _ => tbs_nil) (fun _ _ _ _ _ => (v_ix hr (v_call (ok_worst T) (hr.mono (by decide)) (by rfl) T.d_worst.g T.d_worst.F.kp T.d_worst.b (a_cons (v_name 3) (a_cons (v_name 1) a_nil))) v_int)) (sw_true rfl rfl rfl (by decide +kernel)))
    (b_one (s_ret (v_tup (a_cons (v_index hr (PV.w (v_name 2)) (v_callBF (c_minA rfl hr) (by rfl) T.b_min (by decide +kernel) (a_cons (v_name 2) a_nil))) (a_cons (v_callBF (c_minA rfl hr) (by rfl) T.b_min (by decide +kernel) (a_cons (v_name 2) a_nil)) a_nil)))))))
  exact h
theorem ok_regret (T : TX K mg fa fda) : FnOk P w K mg base CX0 2 (fa 3) (fda 3) ["offers", "many"] (spS K F_regret) := by
  have h := fn_ok (P := P) (w := w) (mg := mg) (base := base) (fb := d_regret) (k := 1) T.d_regret.F sc_regret (fun cdv A outer s H E hr =>
    (b_cons (s_set 2 sc_regret.nd (PL.v (xl_comp [("rows", 3)] [3] rfl rfl sc_regret.nd (IV.c (i_seq (v_name 0))) (blkOk_by (N := ["offers", "many", "costs", "rows", "cost"]) (sc := defScope s_regret) (by decide +kernel)) (fun _ _ _ _ _ => (g_name 3 sc_regret.nd)) (by decide) (fun _ _ _ _ _ => tbs_nil) (fun _ _ _ _ _ => (v_ix hr (v_call (ok_worst T) (hr.mono (by decide)) (by rfl) T.d_worst.g T.d_worst.F.kp T.d_worst.b (a_cons (v_name 3) (a_cons (v_name 1) a_nil))) v_int)))))
    (b_one (s_ret (PL.v (xl_comp [("cost", 4)] [4] rfl rfl sc_regret.nd (IV.c (i_seq (v_name 2))) (blkOk_by (N := ["offers", "many", "costs", "rows", "cost"]) (sc := defScope s_regret) (by decide +kernel)) (fun _ _ _ _ _ => (g_name 4 sc_regret.nd)) (by decide) (fun _ _ _ _ _ => tbs_nil) (fun _ _ _ _ _ => (v_op o_sub (v_name 4) (v_callBF (c_minA rfl hr) (by rfl) T.b_min (by decide +kernel) (a_cons (v_name 2) a_nil))))))))))
  exact h
theorem ok_levels (T : TX K mg fa fda) : FnOk P w K mg base CX0 3 (fa 4) (fda 4) ["offers"] (spS K F_levels) := by
  have h := fn_ok (P := P) (w := w) (mg := mg) (base := base) (fb := d_levels) (k := 2) T.d_levels.F sc_levels (fun cdv A outer s H E hr =>
    (b_cons (s_set 1 sc_levels.nd (v_callBF (c_maxA rfl hr) (by rfl) T.b_max (by decide +kernel) (a_cons (PL.v (xl_comp [("rows", 2)] [2] rfl rfl sc_levels.nd (IV.c (i_seq (v_name 0))) (blkOk_by (N := ["offers", "longest", "rows", "found", "many", "best"]) (sc := defScope s_levels) (by decide +kernel)) (fun _ _ _ _ _ => (g_name 2 sc_levels.nd)) (by decide) (fun _ _ _ _ _ => tbs_nil) (fun _ _ _ _ _ => (v_callB c_len (by rfl) T.b_len (by decide +kernel) (aw_cons (PV.w (v_name 2)) aw_nil))))) a_nil)))
    (b_cons (s_setO 3 sc_levels.nd (PL.o (l_disp a_nil)))
    (b_cons (s_for PassesOwn.never rfl (i_range1 (by rfl) T.b_range (aw_cons (PV.w (v_op o_add (v_name 1) v_int)) aw_nil)) (g_name 4 sc_levels.nd) (b_cons (s_set 5 sc_levels.nd (v_ix hr (v_call (ok_offer T) (hr.mono (by decide)) (by rfl) T.d_offer.g T.d_offer.F.kp T.d_offer.b (a_cons (v_name 0) (a_cons (v_name 4) a_nil))) v_int))
    (b_one (s_if (TW.t (tw_or (t_not (t_tru (w_name 3))) (tw_or1 (t_cmp (o_ne hr) (v_ixW hr (v_ixW hr (w_name 3) (PV.w (v_neg v_int))) (PV.w v_int)) (PV.w (v_name 5)) (nomark _))))) (b_one (s_app 3 (PV.o (v_tup (a_cons (v_name 4) (a_cons (v_name 5) a_nil)))))) b_nil))))
    (b_one (s_retN 3))))))
  exact h
theorem ok_scrap_of (T : TX K mg fa fda) : FnOk P w K mg base CX0 1 (fa 5) (fda 5) ["cells", "width", "height"] (spS K F_scrap_of) := by
  have h := fn_ok (P := P) (w := w) (mg := mg) (base := base) (fb := d_scrap_of) (k := 0) T.d_scrap_of.F sc_scrap_of (fun cdv A outer s H E hr =>
    (b_one (s_ret (v_tup (a_cons (v_callB c_len (by rfl) T.b_len (by decide +kernel) (aw_cons (PV.w (v_name 0)) aw_nil)) (a_cons (v_op o_sub (v_op o_mul (v_name 1) (v_name 2)) (v_callB c_len (by rfl) T.b_len (by decide +kernel) (aw_cons (PV.w (v_name 0)) aw_nil))) a_nil))))))
  exact h
theorem ok_shared (T : TX K mg fa fda) : FnOk P w K mg base CX0 1 (fa 6) (fda 6) ["cents", "weights"] (spS K F_shared) := by
  have h := fn_ok (P := P) (w := w) (mg := mg) (base := base) (fb := d_shared) (k := 0) T.d_shared.F sc_shared (fun cdv A outer s H E hr =>
    (b_cons (s_set 2 sc_shared.nd (v_callB (c_sum rfl) (by rfl) T.b_sum (by decide +kernel) (aw_cons (PV.w (v_name 1)) aw_nil)))
    (b_cons (s_if (t_cmp (o_eq hr) (PV.w (v_name 2)) (PV.w v_int) (nomark _)) (b_one (s_ret (PL.v (xl_comp [("_", 3)] [3] rfl rfl sc_shared.nd (IV.c (i_seq (v_name 1))) (blkOk_by (N := ["cents", "weights", "whole", "_", "parts", "weight", "rests", "at", "rest"]) (sc := defScope s_shared) (by decide +kernel)) (fun _ _ _ _ _ => (g_name 3 sc_shared.nd)) (by decide) (fun _ _ _ _ _ => tbs_nil) (fun _ _ _ _ _ => v_int))))) b_nil)
    (b_cons (s_setO 4 sc_shared.nd (PL.o (xl_comp [("weight", 5)] [5] rfl rfl sc_shared.nd (IV.c (i_seq (v_name 1))) (blkOk_by (N := ["cents", "weights", "whole", "_", "parts", "weight", "rests", "at", "rest"]) (sc := defScope s_shared) (by decide +kernel)) (fun _ _ _ _ _ => (g_name 5 sc_shared.nd)) (by decide) (fun _ _ _ _ _ => tbs_nil) (fun _ _ _ _ _ => (v_op o_div (v_op o_mul (v_name 0) (v_name 5)) (v_name 2))))))
    (b_cons (s_set 6 sc_shared.nd (PL.v (l_callB (c_sorted hr) (by rfl) T.b_sorted (by decide +kernel) (a_cons (PL.v (xl_comp [("at", 7), ("weight", 5)] [7, 5] rfl rfl sc_shared.nd (IV.c (i_enum (by rfl) T.b_enumerate (v_name 1))) (blkOk_by (N := ["cents", "weights", "whole", "_", "parts", "weight", "rests", "at", "rest"]) (sc := defScope s_shared) (by decide +kernel)) (fun _ _ _ _ _ => (g_tup rfl (gs_cons (g_name 7 sc_shared.nd) (gs_cons (g_name 5 sc_shared.nd) gs_nil)))) (by decide) (fun _ _ _ _ _ => tbs_nil) (fun _ _ _ _ _ => (v_tup (a_cons (v_op o_sub (v_op o_mul (v_ixO 4 hr (v_name 7)) (v_name 2)) (v_op o_mul (v_name 0) (v_name 5))) (a_cons (v_name 7) a_nil)))))) a_nil))))
    (b_cons (s_for PassesOwn.never rfl (i_seq (PL.v (l_slice (v_name 6) s_none (s_some (PV.w (v_op o_sub (v_name 0) (v_callB (c_sum rfl) (by rfl) T.b_sum (by decide +kernel) (aw_cons (w_name 4) aw_nil)))))))) (g_tup rfl (gs_cons (g_name 8 sc_shared.nd) (gs_cons (g_name 7 sc_shared.nd) gs_nil))) (b_one (s_putL 4 (v_op o_add (v_ixO 4 hr (v_name 7)) v_int) (PV.w (v_name 7)))))
    (b_one (s_retN 4))))))))
  exact h
theorem ok_shared_fault (T : TX K mg fa fda) : FnOk P w K mg base CX0 1 (fa 7) (fda 7) ["cents", "weights", "parts"] (spS K F_shared_fault) := by
  have h := fn_ok (P := P) (w := w) (mg := mg) (base := base) (fb := d_shared_fault) (k := 0) T.d_shared_fault.F sc_shared_fault (fun cdv A outer s H E hr =>
    (b_cons (s_set 3 sc_shared_fault.nd (v_callB (c_sum rfl) (by rfl) T.b_sum (by decide +kernel) (aw_cons (PV.w (v_name 1)) aw_nil)))
    (b_cons (s_if (TW.t (tw_or (t_cmp (o_ne hr) (PV.w (v_callB c_len (by rfl) T.b_len (by decide +kernel) (aw_cons (PV.w (v_name 2)) aw_nil))) (PV.w (v_callB c_len (by rfl) T.b_len (by decide +kernel) (aw_cons (PV.w (v_name 1)) aw_nil))) (nomark _)) (tw_or1 (t_cmp o_lt (PV.w (v_callBF (c_minA rfl hr) (by rfl) T.b_min (by decide +kernel) (a_cons (v_op o_add (v_name 2) (PL.v (l_disp (a_cons v_int a_nil)))) a_nil))) (PV.w v_int) (nomark _))))) (b_one (s_ret (v_tup (a_cons v_str a_nil)))) b_nil)
    (b_cons (s_if (t_cmp (o_eq hr) (PV.w (v_name 3)) (PV.w v_int) (nomark _)) (b_one (s_ret (v_if (t_cmp (o_eq hr) (PV.w (v_callB (c_sum rfl) (by rfl) T.b_sum (by decide +kernel) (aw_cons (PV.w (v_name 2)) aw_nil))) (PV.w v_int) (nomark _)) v_non (v_tup (a_cons v_str a_nil))))) b_nil)
    (b_cons (s_if (t_cmp (o_ne hr) (PV.w (v_callB (c_sum rfl) (by rfl) T.b_sum (by decide +kernel) (aw_cons (PV.w (v_name 2)) aw_nil))) (PV.w (v_name 0)) (nomark _)) (b_one (s_ret (v_tup (a_cons v_str a_nil)))) b_nil)
    (b_cons (xs_setC 4 [("at", 5), ("weight", 6)] [5, 6] rfl rfl sc_shared_fault.nd (IV.c (i_enum (by rfl) T.b_enumerate (v_name 1))) (blkOk_by (N := ["cents", "weights", "parts", "whole", "gaps", "at", "weight", "one", "other"]) (sc := defScope s_shared_fault) (by decide +kernel)) (fun _ _ _ _ _ => (g_tup rfl (gs_cons (g_name 5 sc_shared_fault.nd) (gs_cons (g_name 6 sc_shared_fault.nd) gs_nil)))) (by decide) (fun _ _ _ _ _ => tbs_nil) (fun _ _ _ _ _ => (v_op o_sub (v_op o_mul (v_ix hr (v_name 2) (v_name 5)) (v_name 3)) (v_op o_mul (v_name 0) (v_name 6)))) (sw_true rfl rfl rfl (by decide +kernel)))
    (b_cons (s_for PassesOwn.never rfl (i_range1 (by rfl) T.b_range (aw_cons (PV.w (v_callB c_len (by rfl) T.b_len (by decide +kernel) (aw_cons (PV.w (v_name 2)) aw_nil))) aw_nil)) (g_name 7 sc_shared_fault.nd) (b_one (s_for PassesOwn.never rfl (i_range1 (by rfl) T.b_range (aw_cons (PV.w (v_callB c_len (by rfl) T.b_len (by decide +kernel) (aw_cons (PV.w (v_name 2)) aw_nil))) aw_nil)) (g_name 8 sc_shared_fault.nd) (b_one (s_if (TW.t (tw_or (t_cmp o_gt (PV.w (v_op o_sub (v_ix hr (v_name 4) (v_name 7)) (v_ix hr (v_name 4) (v_name 8)))) (PV.w (v_name 3)) (nomark _)) (tw_or1 (TW.t (tw_and (t_cmp (o_eq hr) (PV.w (v_op o_sub (v_ix hr (v_name 4) (v_name 7)) (v_ix hr (v_name 4) (v_name 8)))) (PV.w (v_name 3)) (nomark _)) (tw_and1 (t_cmp o_gt (PV.w (v_name 7)) (PV.w (v_name 8)) (nomark _)))))))) (b_one (s_ret (v_tup (a_cons v_str (a_cons (v_name 7) (a_cons (v_name 8) a_nil)))))) b_nil)))))
    (b_one (s_ret v_non)))))))))
  exact h
theorem ok__law_offer (T : TX K mg fa fda) : FnOk P w K mg base CX0 2 (fa 10) (fda 10) ["state"] (spI K I__law_offer) := by
  have h := fn_okI (P := P) (w := w) (mg := mg) (base := base) (fb := d__law_offer) (k := 1) T.d__law_offer.F sc__law_offer (fun cdv A outer s H E hr =>
    (b_cons (s_setO 1 sc__law_offer.nd (PL.o (l_disp a_nil)))
    (b_cons (s_forM PassesOwn.never rfl (mi_range1 (by rfl) T.b_range (ma_cons (m_inout 0 (ok__law_take T) (hr.mono (by decide)) (by rfl) T.d__law_take.g T.d__law_take.F.kp T.d__law_take.b (ma_cons (PV.m v_int) ma_nil)) ma_nil)) (g_name 2 sc__law_offer.nd) (b_cons (s_setM 3 sc__law_offer.nd (m_inout 0 (ok__law_take T) (hr.mono (by decide)) (by rfl) T.d__law_take.g T.d__law_take.F.kp T.d__law_take.b (ma_cons (PV.m v_int) ma_nil)))
    (b_one (s_appM 1 (m_tup (ma_cons (PV.m (v_name 3)) (ma_cons (m_op o_add (PV.m (v_name 3)) (m_ix hr (m_lst (ma_cons (PV.m v_int) (ma_cons (m_inout 0 (ok__law_take T) (hr.mono (by decide)) (by rfl) T.d__law_take.g T.d__law_take.F.kp T.d__law_take.b (ma_cons (PV.m v_int) ma_nil)) ma_nil))) (m_inout 0 (ok__law_take T) (hr.mono (by decide)) (by rfl) T.d__law_take.g T.d__law_take.F.kp T.d__law_take.b (ma_cons (PV.m v_int) ma_nil)))) ma_nil)))))))
    (b_one (s_freeze 1 (s_ret (v_name 1)))))))
  exact h
theorem ok__law_worst (T : TX K mg fa fda) : FnOk P w K mg base CX0 1 (fa 11) (fda 11) ["rows", "many"] (spS K F__law_worst) := by
  have h := fn_ok (P := P) (w := w) (mg := mg) (base := base) (fb := d__law_worst) (k := 0) T.d__law_worst.F sc__law_worst (fun cdv A outer s H E hr =>
    (b_cons (s_set 2 sc__law_worst.nd (PL.v (l_rev (PL.v (l_callB (c_sorted hr) (by rfl) T.b_sorted (by decide +kernel) (a_cons (PL.v (xl_comp [("low", 3), ("high", 4)] [3, 4] rfl rfl sc__law_worst.nd (IV.c (i_seq (v_name 0))) (blkOk_by (N := ["rows", "many", "gains", "low", "high"]) (sc := defScope s__law_worst) (by decide +kernel)) (fun _ _ _ _ _ => (g_tup rfl (gs_cons (g_name 3 sc__law_worst.nd) (gs_cons (g_name 4 sc__law_worst.nd) gs_nil)))) (by decide) (fun _ _ _ _ _ => tbs_nil) (fun _ _ _ _ _ => (v_op o_sub (v_name 4) (v_name 3))))) a_nil))))))
    (b_one (s_ret (v_op o_add (v_callB (c_sum rfl) (by rfl) T.b_sum (by decide +kernel) (aw_cons (PV.w (PL.v (xl_comp [("low", 3), ("high", 4)] [3, 4] rfl rfl sc__law_worst.nd (IV.c (i_seq (v_name 0))) (blkOk_by (N := ["rows", "many", "gains", "low", "high"]) (sc := defScope s__law_worst) (by decide +kernel)) (fun _ _ _ _ _ => (g_tup rfl (gs_cons (g_name 3 sc__law_worst.nd) (gs_cons (g_name 4 sc__law_worst.nd) gs_nil)))) (by decide) (fun _ _ _ _ _ => tbs_nil) (fun _ _ _ _ _ => (v_name 3))))) aw_nil)) (v_callB (c_sum rfl) (by rfl) T.b_sum (by decide +kernel) (aw_cons (PV.w (PL.v (l_slice (v_name 2) s_none (s_some (PV.w (v_name 1)))))) aw_nil)))))))
  exact h
theorem ok__law_fault (T : TX K mg fa fda) : FnOk P w K mg base CX0 1 (fa 12) (fda 12) ["rows", "many", "told"] (spS K F__law_fault) := by
  have h := fn_ok (P := P) (w := w) (mg := mg) (base := base) (fb := d__law_fault) (k := 0) T.d__law_fault.F sc__law_fault (fun cdv A outer s H E hr =>
    (b_cons (s_tg (v_name 2) (g_tup rfl (gs_cons (g_name 3 sc__law_fault.nd) (gs_cons (g_name 4 sc__law_fault.nd) gs_nil))))
    (b_cons (s_if (TW.t (tw_or (t_cmp (o_ne hr) (PV.w (v_name 4)) (PV.w (PL.v (l_setSo rfl hr (by rfl) T.b_sorted (by rfl) T.b_set (v_name 4)))) (nomark _)) (tw_or (t_cmp o_gt (PV.w (v_callB c_len (by rfl) T.b_len (by decide +kernel) (aw_cons (PV.w (PL.v (xl_comp [("k", 5)] [5] rfl rfl sc__law_fault.nd (IV.c (i_seq (v_name 4))) (blkOk_by (N := ["rows", "many", "told", "cost", "chosen", "k", "low", "high", "least"]) (sc := defScope s__law_fault) (by decide +kernel)) (fun _ _ _ _ _ => (g_name 5 sc__law_fault.nd)) (by decide) (fun _ _ _ _ _ => (TB.one (t_not (t_chain o_le o_lt (PV.w v_int) (PV.w (v_name 5)) (PV.w (v_callB c_len (by rfl) T.b_len (by decide +kernel) (aw_cons (PV.w (v_name 0)) aw_nil))))))) (fun _ _ _ _ _ => (v_name 5))))) aw_nil))) (PV.w v_int) (nomark _)) (tw_or1 (t_cmp o_gt (PV.w (v_callB c_len (by rfl) T.b_len (by decide +kernel) (aw_cons (PV.w (v_name 4)) aw_nil))) (PV.w (v_name 1)) (nomark _)))))) (b_one (s_ret (v_tup (a_cons v_str a_nil)))) b_nil)
    (b_cons (s_if (t_cmp (o_ne hr) (PV.w (v_op o_add (v_callB (c_sum rfl) (by rfl) T.b_sum (by decide +kernel) (aw_cons (PV.w (PL.v (xl_comp [("low", 6), ("high", 7)] [6, 7] rfl rfl sc__law_fault.nd (IV.c (i_seq (v_name 0))) (blkOk_by (N := ["rows", "many", "told", "cost", "chosen", "k", "low", "high", "least"]) (sc := defScope s__law_fault) (by decide +kernel)) (fun _ _ _ _ _ => (g_tup rfl (gs_cons (g_name 6 sc__law_fault.nd) (gs_cons (g_name 7 sc__law_fault.nd) gs_nil)))) (by decide) (fun _ _ _ _ _ => tbs_nil) (fun _ _ _ _ _ => (v_name 6))))) aw_nil)) (v_callB (c_sum rfl) (by rfl) T.b_sum (by decide +kernel) (aw_cons (PV.w (PL.v (xl_comp [("k", 5)] [5] rfl rfl sc__law_fault.nd (IV.c (i_seq (v_name 4))) (blkOk_by (N := ["rows", "many", "told", "cost", "chosen", "k", "low", "high", "least"]) (sc := defScope s__law_fault) (by decide +kernel)) (fun _ _ _ _ _ => (g_name 5 sc__law_fault.nd)) (by decide) (fun _ _ _ _ _ => tbs_nil) (fun _ _ _ _ _ => (v_op o_sub (v_ix hr (v_ix hr (v_name 0) (v_name 5)) v_int) (v_ix hr (v_ix hr (v_name 0) (v_name 5)) v_int)))))) aw_nil)))) (PV.w (v_name 3)) (nomark _)) (b_one (s_ret (v_tup (a_cons v_str a_nil)))) b_nil)
    (b_cons (s_if (t_cmp (o_eq hr) (PV.w (v_name 1)) (PV.w v_int) (nomark _)) (b_one (s_ret v_non)) b_nil)
    (b_cons (s_set 8 sc__law_fault.nd (v_if (t_cmp (o_eq hr) (PV.w (v_callB c_len (by rfl) T.b_len (by decide +kernel) (aw_cons (PV.w (v_name 4)) aw_nil))) (PV.w (v_name 1)) (nomark _)) (v_callBF (c_minA rfl hr) (by rfl) T.b_min (by decide +kernel) (a_cons (PL.v (xl_comp [("k", 5)] [5] rfl rfl sc__law_fault.nd (IV.c (i_seq (v_name 4))) (blkOk_by (N := ["rows", "many", "told", "cost", "chosen", "k", "low", "high", "least"]) (sc := defScope s__law_fault) (by decide +kernel)) (fun _ _ _ _ _ => (g_name 5 sc__law_fault.nd)) (by decide) (fun _ _ _ _ _ => tbs_nil) (fun _ _ _ _ _ => (v_op o_sub (v_ix hr (v_ix hr (v_name 0) (v_name 5)) v_int) (v_ix hr (v_ix hr (v_name 0) (v_name 5)) v_int))))) a_nil)) v_int))
    (b_cons (s_for PassesOwn.never rfl (i_range1 (by rfl) T.b_range (aw_cons (PV.w (v_callB c_len (by rfl) T.b_len (by decide +kernel) (aw_cons (PV.w (v_name 0)) aw_nil))) aw_nil)) (g_name 5 sc__law_fault.nd) (b_one (s_if (TW.t (tw_and (t_cmp (o_notin hr) (PV.w (v_name 5)) (PV.w (v_name 4)) (by rfl)) (tw_and1 (t_cmp o_gt (PV.w (v_op o_sub (v_ix hr (v_ix hr (v_name 0) (v_name 5)) v_int) (v_ix hr (v_ix hr (v_name 0) (v_name 5)) v_int))) (PV.w (v_name 8)) (nomark _))))) (b_one (s_ret (v_tup (a_cons v_str (a_cons (v_name 5) a_nil))))) b_nil)))
    (b_one (s_ret v_non)))))))))
  exact h
theorem ok__law_shared (T : TX K mg fa fda) : FnOk P w K mg base CX0 1 (fa 13) (fda 13) ["cents", "weights"] (spS K F__law_shared) := by
  have h := fn_ok (P := P) (w := w) (mg := mg) (base := base) (fb := d__law_shared) (k := 0) T.d__law_shared.F sc__law_shared (fun cdv A outer s H E hr =>
    (b_cons (s_set 2 sc__law_shared.nd (v_callB (c_sum rfl) (by rfl) T.b_sum (by decide +kernel) (aw_cons (PV.w (v_name 1)) aw_nil)))
    (b_cons (s_if (t_cmp (o_eq hr) (PV.w (v_name 2)) (PV.w v_int) (nomark _)) (b_one (s_ret (PL.v (xl_comp [("one", 3)] [3] rfl rfl sc__law_shared.nd (IV.c (i_seq (v_name 1))) (blkOk_by (N := ["cents", "weights", "whole", "one", "parts", "rests", "k"]) (sc := defScope s__law_shared) (by decide +kernel)) (fun _ _ _ _ _ => (g_name 3 sc__law_shared.nd)) (by decide) (fun _ _ _ _ _ => tbs_nil) (fun _ _ _ _ _ => v_int))))) b_nil)
    (b_cons (s_setO 4 sc__law_shared.nd (PL.o (xl_comp [("one", 3)] [3] rfl rfl sc__law_shared.nd (IV.c (i_seq (v_name 1))) (blkOk_by (N := ["cents", "weights", "whole", "one", "parts", "rests", "k"]) (sc := defScope s__law_shared) (by decide +kernel)) (fun _ _ _ _ _ => (g_name 3 sc__law_shared.nd)) (by decide) (fun _ _ _ _ _ => tbs_nil) (fun _ _ _ _ _ => (v_op o_div (v_op o_mul (v_name 0) (v_name 3)) (v_name 2))))))
    (b_cons (s_while (fun _ => 1000) PassesOwn.never (t_cmp o_lt (PV.w (v_callB (c_sum rfl) (by rfl) T.b_sum (by decide +kernel) (aw_cons (w_name 4) aw_nil))) (PV.w (v_name 0)) (nomark _)) (b_cons (xs_setC 5 [("k", 6)] [6] rfl rfl sc__law_shared.nd (IV.c (i_range1 (by rfl) T.b_range (aw_cons (PV.w (v_callB c_len (by rfl) T.b_len (by decide +kernel) (aw_cons (PV.w (v_name 1)) aw_nil))) aw_nil))) (blkOk_by (N := ["cents", "weights", "whole", "one", "parts", "rests", "k"]) (sc := defScope s__law_shared) (by decide +kernel)) (fun _ _ _ _ _ => (g_name 6 sc__law_shared.nd)) (by decide) (fun _ _ _ _ _ => tbs_nil) (fun _ _ _ _ _ => (v_tup (a_cons (v_op o_sub (v_op o_mul (v_ixO 4 hr (v_name 6)) (v_name 2)) (v_op o_mul (v_name 0) (v_ix hr (v_name 1) (v_name 6)))) (a_cons (v_name 6) a_nil)))) (sw_true rfl rfl rfl (by decide +kernel)))
    (b_one (s_putL 4 (v_op o_add (v_ixO 4 hr (v_ix hr (v_callBF (c_minA rfl hr) (by rfl) T.b_min (by decide +kernel) (a_cons (v_name 5) a_nil)) v_int)) v_int) (PV.w (v_ix hr (v_callBF (c_minA rfl hr) (by rfl) T.b_min (by decide +kernel) (a_cons (v_name 5) a_nil)) v_int))))))
    (b_one (s_retN 4)))))))
  exact h
theorem ok__law_shared_fault (T : TX K mg fa fda) : FnOk P w K mg base CX0 1 (fa 14) (fda 14) ["cents", "weights", "parts"] (spS K F__law_shared_fault) := by
  have h := fn_ok (P := P) (w := w) (mg := mg) (base := base) (fb := d__law_shared_fault) (k := 0) T.d__law_shared_fault.F sc__law_shared_fault (fun cdv A outer s H E hr =>
    (b_cons (s_set 3 sc__law_shared_fault.nd (v_callB (c_sum rfl) (by rfl) T.b_sum (by decide +kernel) (aw_cons (PV.w (v_name 1)) aw_nil)))
    (b_cons (s_if (TW.t (tw_or (t_cmp (o_ne hr) (PV.w (v_callB c_len (by rfl) T.b_len (by decide +kernel) (aw_cons (PV.w (v_name 2)) aw_nil))) (PV.w (v_callB c_len (by rfl) T.b_len (by decide +kernel) (aw_cons (PV.w (v_name 1)) aw_nil))) (nomark _)) (tw_or1 (t_cmp o_gt (PV.w (v_callB c_len (by rfl) T.b_len (by decide +kernel) (aw_cons (PV.w (PL.v (xl_comp [("one", 4)] [4] rfl rfl sc__law_shared_fault.nd (IV.c (i_seq (v_name 2))) (blkOk_by (N := ["cents", "weights", "parts", "whole", "one", "i", "j", "more"]) (sc := defScope s__law_shared_fault) (by decide +kernel)) (fun _ _ _ _ _ => (g_name 4 sc__law_shared_fault.nd)) (by decide) (fun _ _ _ _ _ => (TB.one (t_cmp o_lt (PV.w (v_name 4)) (PV.w v_int) (nomark _)))) (fun _ _ _ _ _ => (v_name 4))))) aw_nil))) (PV.w v_int) (nomark _))))) (b_one (s_ret (v_tup (a_cons v_str a_nil)))) b_nil)
    (b_cons (s_if (t_cmp (o_eq hr) (PV.w (v_name 3)) (PV.w v_int) (nomark _)) (b_one (s_ret (v_if (t_cmp (o_eq hr) (PV.w (v_callB (c_sum rfl) (by rfl) T.b_sum (by decide +kernel) (aw_cons (PV.w (v_name 2)) aw_nil))) (PV.w v_int) (nomark _)) v_non (v_tup (a_cons v_str a_nil))))) b_nil)
    (b_cons (s_if (t_cmp (o_ne hr) (PV.w (v_callB (c_sum rfl) (by rfl) T.b_sum (by decide +kernel) (aw_cons (PV.w (v_name 2)) aw_nil))) (PV.w (v_name 0)) (nomark _)) (b_one (s_ret (v_tup (a_cons v_str a_nil)))) b_nil)
    (b_cons (s_for PassesOwn.never rfl (i_range1 (by rfl) T.b_range (aw_cons (PV.w (v_callB c_len (by rfl) T.b_len (by decide +kernel) (aw_cons (PV.w (v_name 2)) aw_nil))) aw_nil)) (g_name 5 sc__law_shared_fault.nd) (b_one (s_for PassesOwn.never rfl (i_range1 (by rfl) T.b_range (aw_cons (PV.w (v_callB c_len (by rfl) T.b_len (by decide +kernel) (aw_cons (PV.w (v_name 2)) aw_nil))) aw_nil)) (g_name 6 sc__law_shared_fault.nd) (b_cons (s_set 7 sc__law_shared_fault.nd (v_op o_sub (v_op o_mul (v_op o_sub (v_ix hr (v_name 2) (v_name 5)) (v_ix hr (v_name 2) (v_name 6))) (v_name 3)) (v_op o_mul (v_name 0) (v_op o_sub (v_ix hr (v_name 1) (v_name 5)) (v_ix hr (v_name 1) (v_name 6))))))
    (b_one (s_if (TW.t (tw_or (t_cmp o_gt (PV.w (v_name 7)) (PV.w (v_name 3)) (nomark _)) (tw_or1 (TW.t (tw_and (t_cmp (o_eq hr) (PV.w (v_name 7)) (PV.w (v_name 3)) (nomark _)) (tw_and1 (t_cmp o_gt (PV.w (v_name 5)) (PV.w (v_name 6)) (nomark _)))))))) (b_one (s_ret (v_tup (a_cons v_str (a_cons (v_name 5) (a_cons (v_name 6) a_nil)))))) b_nil))))))
    (b_one (s_ret v_non))))))))
  exact h
theorem ok__law_shares_right (T : TX K mg fa fda) : FnOk P w K mg base CX0 2 (fa 15) (fda 15) ["state"] (spI K I__law_shares_right) := by
  have h := fn_okI (P := P) (w := w) (mg := mg) (base := base) (fb := d__law_shares_right) (k := 1) T.d__law_shares_right.F sc__law_shares_right (fun cdv A outer s H E hr =>
    (b_cons (s_setM 1 sc__law_shares_right.nd (m_ix hr (m_lst (ma_cons (m_inout 0 (ok__law_take T) (hr.mono (by decide)) (by rfl) T.d__law_take.g T.d__law_take.F.kp T.d__law_take.b (ma_cons (PV.m v_int) ma_nil)) (ma_cons (m_inout 0 (ok__law_take T) (hr.mono (by decide)) (by rfl) T.d__law_take.g T.d__law_take.F.kp T.d__law_take.b (ma_cons (PV.m (v_op o_pow v_int v_int)) ma_nil)) ma_nil))) (m_inout 0 (ok__law_take T) (hr.mono (by decide)) (by rfl) T.d__law_take.g T.d__law_take.F.kp T.d__law_take.b (ma_cons (PV.m v_int) ma_nil))))
    (b_cons (xs_setCM 2 [("k", 3)] [3] rfl rfl sc__law_shares_right.nd (mi_range1 (by rfl) T.b_range (ma_cons (m_inout 0 (ok__law_take T) (hr.mono (by decide)) (by rfl) T.d__law_take.g T.d__law_take.F.kp T.d__law_take.b (ma_cons (PV.m v_int) ma_nil)) ma_nil)) (blkOk_by (N := ["state", "cents", "weights", "k", "parts", "other", "one", "two"]) (sc := defScope s__law_shares_right) (by decide +kernel)) (fun _ _ _ _ _ => (g_name 3 sc__law_shares_right.nd)) (by decide) (fun _ _ _ _ _ => mts_nil) (fun _ _ _ _ _ => (m_inout 0 (ok__law_take T) (hr.mono (by decide)) (by rfl) T.d__law_take.g T.d__law_take.F.kp T.d__law_take.b (ma_cons (m_ix hr (PV.m (PL.v (l_disp (a_cons v_int (a_cons v_int a_nil))))) (m_inout 0 (ok__law_take T) (hr.mono (by decide)) (by rfl) T.d__law_take.g T.d__law_take.F.kp T.d__law_take.b (ma_cons (PV.m v_int) ma_nil))) ma_nil))) (sw_true rfl rfl rfl (by decide +kernel)))
    (b_cons (s_set 4 sc__law_shares_right.nd (v_call (ok_shared T) (hr.mono (by decide)) (by rfl) T.d_shared.g T.d_shared.F.kp T.d_shared.b (a_cons (v_name 1) (a_cons (v_name 2) a_nil))))
    (b_cons (s_if (TW.t (tw_or (t_cmp (o_ne hr) (PV.w (v_name 4)) (PV.w (v_call (ok__law_shared T) (hr.mono (by decide)) (by rfl) T.d__law_shared.g T.d__law_shared.F.kp T.d__law_shared.b (a_cons (v_name 1) (a_cons (v_name 2) a_nil)))) (nomark _)) (tw_or1 (t_cmp o_isnot (PV.w (v_call (ok_shared_fault T) (hr.mono (by decide)) (by rfl) T.d_shared_fault.g T.d_shared_fault.F.kp T.d_shared_fault.b (a_cons (v_name 1) (a_cons (v_name 2) (a_cons (v_name 4) a_nil))))) (PV.w v_non) (nomark _))))) (b_one (s_ret v_bl)) b_nil)
    (b_cons (s_for PassesOwn.never rfl (i_range1 (by rfl) T.b_range (aw_cons (PV.w v_int) aw_nil)) (g_name 3 sc__law_shares_right.nd) (b_cons (s_setO 5 sc__law_shares_right.nd (PL.o (l_callT c_list (by rfl) T.b_list (by decide +kernel) (a_cons (v_name 4) a_nil))))
    (b_cons (s_if (t_cmp o_gt (PV.w (v_callB c_len (by rfl) T.b_len (by decide +kernel) (aw_cons (w_name 5) aw_nil))) (PV.w v_int) (nomark _)) (b_cons (s_parM (i := 6) (j := 7) rfl sc__law_shares_right.nd (ma_cons (m_inout 0 (ok__law_take T) (hr.mono (by decide)) (by rfl) T.d__law_take.g T.d__law_take.F.kp T.d__law_take.b (ma_cons (PV.m (v_callB c_len (by rfl) T.b_len (by decide +kernel) (aw_cons (w_name 5) aw_nil))) ma_nil)) (ma_cons (m_inout 0 (ok__law_take T) (hr.mono (by decide)) (by rfl) T.d__law_take.g T.d__law_take.F.kp T.d__law_take.b (ma_cons (PV.m (v_callB c_len (by rfl) T.b_len (by decide +kernel) (aw_cons (w_name 5) aw_nil))) ma_nil)) ma_nil)) (by decide))
    (b_cons (s_putL 5 (v_op o_add (v_ixO 5 hr (v_name 6)) v_int) (PV.w (v_name 6)))
    (b_cons (s_putLM 5 (m_op o_sub (PV.m (v_ixO 5 hr (v_name 7))) (m_ix hr (PV.m (PL.v (l_disp (a_cons v_int (a_cons v_int (a_cons v_int a_nil)))))) (m_inout 0 (ok__law_take T) (hr.mono (by decide)) (by rfl) T.d__law_take.g T.d__law_take.F.kp T.d__law_take.b (ma_cons (PV.m v_int) ma_nil)))) (PV.w (v_name 7)))
    (b_one (s_freeze 5 (s_setM 5 sc__law_shares_right.nd (m_if (mt_cmp o_gt (m_inout 0 (ok__law_take T) (hr.mono (by decide)) (by rfl) T.d__law_take.g T.d__law_take.F.kp T.d__law_take.b (ma_cons (PV.m v_int) ma_nil)) (PV.m v_int) (nomark _)) (PV.m (v_name 5)) (PV.m (PL.v (l_slice (v_name 5) (s_some (PV.w v_int)) s_none)))))))))) (b_freeze 5 b_nil))
    (b_one (s_freeze 5 (s_if (t_cmp (o_ne hr) (PV.w (v_call (ok_shared_fault T) (hr.mono (by decide)) (by rfl) T.d_shared_fault.g T.d_shared_fault.F.kp T.d_shared_fault.b (a_cons (v_name 1) (a_cons (v_name 2) (a_cons (v_name 5) a_nil))))) (PV.w (v_call (ok__law_shared_fault T) (hr.mono (by decide)) (by rfl) T.d__law_shared_fault.g T.d__law_shared_fault.F.kp T.d__law_shared_fault.b (a_cons (v_name 1) (a_cons (v_name 2) (a_cons (v_name 5) a_nil))))) (nomark _)) (b_one (s_ret v_bl)) b_nil))))))
    (b_one (s_ret v_bl))))))))
  exact h
theorem ok_law (T : TX K mg fa fda) (ht : LawTrue 19 d_law) : RunG P w K mg base (fa 16) (fda 16) ["script"] (spLaw K) := by
  have h := law_okG (P := P) (w := w) (mg := mg) (base := base) (fb := d_law) (k := 2) T.d_law.F sc_law rfl rfl ⟨rfl, by decide, by decide⟩ (fun cdv s H E hr =>
    (b_cons (s_setM 2 sc_law.nd (m_inout 1 (ok__law_offer T) (hr.mono (by decide)) (by rfl) T.d__law_offer.g T.d__law_offer.F.kp T.d__law_offer.b ma_nil))
    (b_cons (s_setM 3 sc_law.nd (m_inout 1 (ok__law_take T) (hr.mono (by decide)) (by rfl) T.d__law_take.g T.d__law_take.F.kp T.d__law_take.b (ma_cons (PV.m v_int) ma_nil)))
    (b_cons (s_set 4 sc_law.nd (PL.v (l_callT c_list (by rfl) T.b_list (by decide +kernel) (a_cons (v_name 2) a_nil))))
    (b_cons (s_set 5 sc_law.nd (v_call (ok_worst T) (hr.mono (by decide)) (by rfl) T.d_worst.g T.d_worst.F.kp T.d_worst.b (a_cons (v_name 2) (a_cons (v_name 3) a_nil))))
    (b_cons (s_set 6 sc_law.nd (PL.v (l_disp (a_cons (PL.v (l_disp a_nil)) a_nil))))
    (b_cons (s_for PassesOwn.never rfl (i_range1 (by rfl) T.b_range (aw_cons (PV.w (v_callB c_len (by rfl) T.b_len (by decide +kernel) (aw_cons (PV.w (v_name 2)) aw_nil))) aw_nil)) (g_name 7 sc_law.nd) (b_one (s_set 6 sc_law.nd (v_op o_add (v_name 6) (PL.v (xl_comp [("row", 8)] [8] rfl rfl sc_law.nd (IV.c (i_seq (v_name 6))) (blkOk_by (N := ["script", "state", "rows", "many", "kept", "told", "sets", "k", "row", "costs", "low", "high", "other", "offers", "one", "cost", "due", "count", "best"]) (sc := defScope s_law) (by decide +kernel)) (fun _ _ _ _ _ => (g_name 8 sc_law.nd)) (by decide) (fun _ _ _ _ _ => (TB.one (t_cmp o_lt (PV.w (v_callB c_len (by rfl) T.b_len (by decide +kernel) (aw_cons (PV.w (v_name 8)) aw_nil))) (PV.w (v_name 3)) (nomark _)))) (fun _ _ _ _ _ => (v_op o_add (v_name 8) (PL.v (l_disp (a_cons (v_name 7) a_nil)))))))))))
    (b_cons (s_set 9 sc_law.nd (PL.v (xl_comp [("row", 8)] [8] rfl rfl sc_law.nd (IV.c (i_seq (v_name 6))) (blkOk_by (N := ["script", "state", "rows", "many", "kept", "told", "sets", "k", "row", "costs", "low", "high", "other", "offers", "one", "cost", "due", "count", "best"]) (sc := defScope s_law) (by decide +kernel)) (fun _ _ _ _ _ => (g_name 8 sc_law.nd)) (by decide) (fun _ _ _ _ _ => tbs_nil) (fun _ _ _ _ _ => (v_op o_add (v_callB (c_sum rfl) (by rfl) T.b_sum (by decide +kernel) (aw_cons (PV.w (PL.v (xl_comp [("low", 10), ("high", 11)] [10, 11] rfl rfl sc_law.nd (IV.c (i_seq (v_name 2))) (blkN (blkOk_by (N := ["script", "state", "rows", "many", "kept", "told", "sets", "k", "row", "costs", "low", "high", "other", "offers", "one", "cost", "due", "count", "best"]) (by decide +kernel))) (fun _ _ _ _ _ => (g_tup rfl (gs_cons (g_name 10 sc_law.nd) (gs_cons (g_name 11 sc_law.nd) gs_nil)))) (by decide) (fun _ _ _ _ _ => tbs_nil) (fun _ _ _ _ _ => (v_name 10))))) aw_nil)) (v_callB (c_sum rfl) (by rfl) T.b_sum (by decide +kernel) (aw_cons (PV.w (PL.v (xl_comp [("k", 7)] [7] rfl rfl sc_law.nd (IV.c (i_seq (v_name 8))) (blkN (blkOk_by (N := ["script", "state", "rows", "many", "kept", "told", "sets", "k", "row", "costs", "low", "high", "other", "offers", "one", "cost", "due", "count", "best"]) (by decide +kernel))) (fun _ _ _ _ _ => (g_name 7 sc_law.nd)) (by decide) (fun _ _ _ _ _ => tbs_nil) (fun _ _ _ _ _ => (v_op o_sub (v_ix hr (v_ix hr (v_name 2) (v_name 7)) v_int) (v_ix hr (v_ix hr (v_name 2) (v_name 7)) v_int)))))) aw_nil)))))))
    (b_cons (s_if (TW.t (tw_or (t_not (t_tru (PV.w (v_isi (by rfl) T.b_isinstance (by rfl) T.b_tuple (PV.w (v_name 5)))))) (tw_or (t_cmp (o_ne hr) (PV.w (v_ix hr (v_name 5) v_int)) (PV.w (v_callBF (c_maxA rfl hr) (by rfl) T.b_max (by decide +kernel) (a_cons (v_name 9) a_nil))) (nomark _)) (tw_or (t_cmp o_isnot (PV.w (v_call (ok__law_fault T) (hr.mono (by decide)) (by rfl) T.d__law_fault.g T.d__law_fault.F.kp T.d__law_fault.b (a_cons (v_name 2) (a_cons (v_name 3) (a_cons (v_name 5) a_nil))))) (PV.w v_non) (nomark _)) (tw_or1 (t_cmp o_isnot (PV.w (v_call (ok_worst_fault T) (hr.mono (by decide)) (by rfl) T.d_worst_fault.g T.d_worst_fault.F.kp T.d_worst_fault.b (a_cons (v_name 2) (a_cons (v_name 3) (a_cons (v_name 5) a_nil))))) (PV.w v_non) (nomark _))))))) (b_one (s_ret v_bl)) b_nil)
    (b_cons (s_for PassesOwn.never rfl (i_range1 (by rfl) T.b_range (aw_cons (PV.w (v_callB c_len (by rfl) T.b_len (by decide +kernel) (aw_cons (PV.w (v_name 6)) aw_nil))) aw_nil)) (g_name 7 sc_law.nd) (b_cons (s_if (t_cmp (o_ne hr) (PV.w (v_call (ok_worst_fault T) (hr.mono (by decide)) (by rfl) T.d_worst_fault.g T.d_worst_fault.F.kp T.d_worst_fault.b (a_cons (v_name 2) (a_cons (v_name 3) (a_cons (v_tup (a_cons (v_ix hr (v_name 9) (v_name 7)) (a_cons (v_ix hr (v_name 6) (v_name 7)) a_nil))) a_nil))))) (PV.w (v_call (ok__law_fault T) (hr.mono (by decide)) (by rfl) T.d__law_fault.g T.d__law_fault.F.kp T.d__law_fault.b (a_cons (v_name 2) (a_cons (v_name 3) (a_cons (v_tup (a_cons (v_ix hr (v_name 9) (v_name 7)) (a_cons (v_ix hr (v_name 6) (v_name 7)) a_nil))) a_nil))))) (nomark _)) (b_one (s_ret v_bl)) b_nil)
    (b_one (s_if (t_cmp (o_ne hr) (PV.w (v_cmp (o_eq hr) (PV.w (v_ix hr (v_name 9) (v_name 7))) (PV.w (v_ix hr (v_name 5) v_int)) (nomark _))) (PV.w (v_cmp o_is (PV.w (v_call (ok_worst_fault T) (hr.mono (by decide)) (by rfl) T.d_worst_fault.g T.d_worst_fault.F.kp T.d_worst_fault.b (a_cons (v_name 2) (a_cons (v_name 3) (a_cons (v_tup (a_cons (v_ix hr (v_name 9) (v_name 7)) (a_cons (v_ix hr (v_name 6) (v_name 7)) a_nil))) a_nil))))) (PV.w v_non) (nomark _))) (nomark _)) (b_one (s_ret v_bl)) b_nil))))
    (b_cons (s_for PassesOwn.never rfl (i_seq (PL.v (l_disp (a_cons (v_tup (a_cons (v_op o_add (v_ix hr (v_name 5) v_int) v_int) (a_cons (v_ix hr (v_name 5) v_int) a_nil))) (a_cons (v_tup (a_cons (v_ix hr (v_name 5) v_int) (a_cons (PL.v (l_rev (v_ix hr (v_name 5) v_int))) a_nil))) (a_cons (v_tup (a_cons (v_ix hr (v_name 5) v_int) (a_cons (v_op o_add (v_ix hr (v_name 5) v_int) (PL.v (l_disp (a_cons (v_callB c_len (by rfl) T.b_len (by decide +kernel) (aw_cons (PV.w (v_name 2)) aw_nil)) a_nil)))) a_nil))) (a_cons (v_tup (a_cons (v_ix hr (v_name 5) v_int) (a_cons (PL.v (l_disp (a_cons (v_op o_sub v_int v_int) a_nil))) a_nil))) a_nil))))))) (g_name 12 sc_law.nd) (b_one (s_if (t_cmp (o_ne hr) (PV.w (v_call (ok_worst_fault T) (hr.mono (by decide)) (by rfl) T.d_worst_fault.g T.d_worst_fault.F.kp T.d_worst_fault.b (a_cons (v_name 2) (a_cons (v_name 3) (a_cons (v_name 12) a_nil))))) (PV.w (v_call (ok__law_fault T) (hr.mono (by decide)) (by rfl) T.d__law_fault.g T.d__law_fault.F.kp T.d__law_fault.b (a_cons (v_name 2) (a_cons (v_name 3) (a_cons (v_name 12) a_nil))))) (nomark _)) (b_one (s_ret v_bl)) b_nil)))
    (b_cons (s_setM 13 sc_law.nd (m_op o_add (PV.m (PL.v (l_disp (a_cons (v_name 2) a_nil)))) (xm_comp [("k", 7)] [7] rfl rfl sc_law.nd (mi_range1 (by rfl) T.b_range (ma_cons (m_inout 1 (ok__law_take T) (hr.mono (by decide)) (by rfl) T.d__law_take.g T.d__law_take.F.kp T.d__law_take.b (ma_cons (PV.m v_int) ma_nil)) ma_nil)) (blkOk_by (N := ["script", "state", "rows", "many", "kept", "told", "sets", "k", "row", "costs", "low", "high", "other", "offers", "one", "cost", "due", "count", "best"]) (sc := defScope s_law) (by decide +kernel)) (fun _ _ _ _ _ => (g_name 7 sc_law.nd)) (by decide) (fun _ _ _ _ _ => mts_nil) (fun _ _ _ _ _ => (m_inout 1 (ok__law_offer T) (hr.mono (by decide)) (by rfl) T.d__law_offer.g T.d__law_offer.F.kp T.d__law_offer.b ma_nil)))))
    (b_cons (s_set 9 sc_law.nd (PL.v (xl_comp [("one", 14)] [14] rfl rfl sc_law.nd (IV.c (i_seq (v_name 13))) (blkOk_by (N := ["script", "state", "rows", "many", "kept", "told", "sets", "k", "row", "costs", "low", "high", "other", "offers", "one", "cost", "due", "count", "best"]) (sc := defScope s_law) (by decide +kernel)) (fun _ _ _ _ _ => (g_name 14 sc_law.nd)) (by decide) (fun _ _ _ _ _ => tbs_nil) (fun _ _ _ _ _ => (v_call (ok__law_worst T) (hr.mono (by decide)) (by rfl) T.d__law_worst.g T.d__law_worst.F.kp T.d__law_worst.b (a_cons (v_name 14) (a_cons (v_name 3) a_nil)))))))
    (b_cons (s_if (TW.t (tw_or (t_cmp (o_ne hr) (PV.w (v_call (ok_offer T) (hr.mono (by decide)) (by rfl) T.d_offer.g T.d_offer.F.kp T.d_offer.b (a_cons (v_name 13) (a_cons (v_name 3) a_nil)))) (PV.w (v_tup (a_cons (v_index hr (PV.w (v_name 9)) (v_callBF (c_minA rfl hr) (by rfl) T.b_min (by decide +kernel) (a_cons (v_name 9) a_nil))) (a_cons (v_callBF (c_minA rfl hr) (by rfl) T.b_min (by decide +kernel) (a_cons (v_name 9) a_nil)) a_nil)))) (nomark _)) (tw_or1 (t_cmp (o_ne hr) (PV.w (v_call (ok_regret T) (hr.mono (by decide)) (by rfl) T.d_regret.g T.d_regret.F.kp T.d_regret.b (a_cons (v_name 13) (a_cons (v_name 3) a_nil)))) (PV.w (PL.v (xl_comp [("cost", 15)] [15] rfl rfl sc_law.nd (IV.c (i_seq (v_name 9))) (blkOk_by (N := ["script", "state", "rows", "many", "kept", "told", "sets", "k", "row", "costs", "low", "high", "other", "offers", "one", "cost", "due", "count", "best"]) (sc := defScope s_law) (by decide +kernel)) (fun _ _ _ _ _ => (g_name 15 sc_law.nd)) (by decide) (fun _ _ _ _ _ => tbs_nil) (fun _ _ _ _ _ => (v_op o_sub (v_name 15) (v_callBF (c_minA rfl hr) (by rfl) T.b_min (by decide +kernel) (a_cons (v_name 9) a_nil))))))) (nomark _))))) (b_one (s_ret v_bl)) b_nil)
    (b_cons (s_setO 16 sc_law.nd (PL.o (l_disp a_nil)))
    (b_cons (s_for PassesOwn.never rfl (i_range1 (by rfl) T.b_range (aw_cons (PV.w (v_op o_add (v_callBF (c_maxA rfl hr) (by rfl) T.b_max (by decide +kernel) (a_cons (PL.v (xl_comp [("one", 14)] [14] rfl rfl sc_law.nd (IV.c (i_seq (v_name 13))) (blkOk_by (N := ["script", "state", "rows", "many", "kept", "told", "sets", "k", "row", "costs", "low", "high", "other", "offers", "one", "cost", "due", "count", "best"]) (sc := defScope s_law) (by decide +kernel)) (fun _ _ _ _ _ => (g_name 14 sc_law.nd)) (by decide) (fun _ _ _ _ _ => tbs_nil) (fun _ _ _ _ _ => (v_callB c_len (by rfl) T.b_len (by decide +kernel) (aw_cons (PV.w (v_name 14)) aw_nil))))) a_nil)) v_int)) aw_nil)) (g_name 17 sc_law.nd) (b_cons (s_set 9 sc_law.nd (PL.v (xl_comp [("one", 14)] [14] rfl rfl sc_law.nd (IV.c (i_seq (v_name 13))) (blkOk_by (N := ["script", "state", "rows", "many", "kept", "told", "sets", "k", "row", "costs", "low", "high", "other", "offers", "one", "cost", "due", "count", "best"]) (sc := defScope s_law) (by decide +kernel)) (fun _ _ _ _ _ => (g_name 14 sc_law.nd)) (by decide) (fun _ _ _ _ _ => tbs_nil) (fun _ _ _ _ _ => (v_call (ok__law_worst T) (hr.mono (by decide)) (by rfl) T.d__law_worst.g T.d__law_worst.F.kp T.d__law_worst.b (a_cons (v_name 14) (a_cons (v_name 17) a_nil)))))))
    (b_cons (s_set 18 sc_law.nd (v_index hr (PV.w (v_name 9)) (v_callBF (c_minA rfl hr) (by rfl) T.b_min (by decide +kernel) (a_cons (v_name 9) a_nil))))
    (b_one (s_if (TW.t (tw_or (t_cmp (o_eq hr) (PV.w (v_callB c_len (by rfl) T.b_len (by decide +kernel) (aw_cons (w_name 16) aw_nil))) (PV.w v_int) (nomark _)) (tw_or1 (t_cmp (o_ne hr) (v_ixW hr (v_ixW hr (w_name 16) (PV.w (v_neg v_int))) (PV.w v_int)) (PV.w (v_name 18)) (nomark _))))) (b_one (s_app 16 (PV.o (v_tup (a_cons (v_name 17) (a_cons (v_name 18) a_nil)))))) b_nil)))))
    (b_cons (s_if (t_cmp (o_ne hr) (PV.w (v_call (ok_scrap_of T) (hr.mono (by decide)) (by rfl) T.d_scrap_of.g T.d_scrap_of.F.kp T.d_scrap_of.b (a_cons (PL.v (l_disp (a_cons (v_tup (a_cons v_int (a_cons v_int a_nil))) (a_cons (v_tup (a_cons v_int (a_cons v_int a_nil))) a_nil)))) (a_cons v_int (a_cons v_int a_nil))))) (PV.w (v_tup (a_cons v_int (a_cons v_int a_nil)))) (nomark _)) (b_one (s_ret v_bl)) b_nil)
    (b_one (s_retM (m_and (PV.m (v_cmp (o_eq hr) (PV.w (v_call (ok_levels T) (hr.mono (by decide)) (by rfl) T.d_levels.g T.d_levels.F.kp T.d_levels.b (a_cons (v_name 13) a_nil))) (w_name 16) (nomark _))) (m_and (m_inout 1 (ok__law_shares_right T) (hr.mono (by decide)) (by rfl) T.d__law_shares_right.g T.d__law_shares_right.F.kp T.d__law_shares_right.b ma_nil) (m_one (PV.m (v_cmp (o_eq hr) (PV.w (v_name 2)) (PV.w (v_name 4)) (nomark _)))))))))))))))))))))))))
    (fun cdv s H E hr => ps_set (i := 1) sc_law.nd rfl (by first | exact Or.inl rfl | exact Or.inr rfl) (pe_call (ok__law_state T) (hr.mono (by decide)) (by rfl) T.d__law_state.g T.d__law_state.F.kp T.d__law_state.b .nil pass0 (pa_cons (pv 0) pa_nil))) ht
  exact h
end
theorem all_mk {l : PySem.W.OpenLaw} {w : World} {K : PySem.W.Frag} {h : Heap} {mg : Str → Option Value} {fl : Addr} (X : K.In h) (G : h.Ns mainGlobals mg) (hfl : mg "law" = some (.ref fl))
    {f0 : Addr} {od0 an0 : Option Addr} {sl0 : Array (Option Value)} {oc0 kV0 dc0 pm0 cd0 ct0 : Value}
    {f1 : Addr} {od1 an1 : Option Addr} {sl1 : Array (Option Value)} {oc1 kV1 dc1 pm1 cd1 ct1 : Value}
    {f2 : Addr} {od2 an2 : Option Addr} {sl2 : Array (Option Value)} {oc2 kV2 dc2 pm2 cd2 ct2 : Value}
    {f3 : Addr} {od3 an3 : Option Addr} {sl3 : Array (Option Value)} {oc3 kV3 dc3 pm3 cd3 ct3 : Value}
    {f4 : Addr} {od4 an4 : Option Addr} {sl4 : Array (Option Value)} {oc4 kV4 dc4 pm4 cd4 ct4 : Value}
    {f5 : Addr} {od5 an5 : Option Addr} {sl5 : Array (Option Value)} {oc5 kV5 dc5 pm5 cd5 ct5 : Value}
    {f6 : Addr} {od6 an6 : Option Addr} {sl6 : Array (Option Value)} {oc6 kV6 dc6 pm6 cd6 ct6 : Value}
    {f7 : Addr} {od7 an7 : Option Addr} {sl7 : Array (Option Value)} {oc7 kV7 dc7 pm7 cd7 ct7 : Value}
    {f8 : Addr} {od8 an8 : Option Addr} {sl8 : Array (Option Value)} {oc8 kV8 dc8 pm8 cd8 ct8 : Value}
    {f9 : Addr} {od9 an9 : Option Addr} {sl9 : Array (Option Value)} {oc9 kV9 dc9 pm9 cd9 ct9 : Value}
    {f10 : Addr} {od10 an10 : Option Addr} {sl10 : Array (Option Value)} {oc10 kV10 dc10 pm10 cd10 ct10 : Value}
    {f11 : Addr} {od11 an11 : Option Addr} {sl11 : Array (Option Value)} {oc11 kV11 dc11 pm11 cd11 ct11 : Value}
    {f12 : Addr} {od12 an12 : Option Addr} {sl12 : Array (Option Value)} {oc12 kV12 dc12 pm12 cd12 ct12 : Value}
    {f13 : Addr} {od13 an13 : Option Addr} {sl13 : Array (Option Value)} {oc13 kV13 dc13 pm13 cd13 ct13 : Value}
    {f14 : Addr} {od14 an14 : Option Addr} {sl14 : Array (Option Value)} {oc14 kV14 dc14 pm14 cd14 ct14 : Value}
    {f15 : Addr} {od15 an15 : Option Addr} {sl15 : Array (Option Value)} {oc15 kV15 dc15 pm15 cd15 ct15 : Value}
    {f16 : Addr} {od16 an16 : Option Addr} {sl16 : Array (Option Value)} {oc16 kV16 dc16 pm16 cd16 ct16 : Value}
    (a0 : PySem.W.nsIn K mainGlobals "worst" = some (some (.ref f0))) (l0 : K.lookup f0 = some ⟨oc0, od0, .func (PySem.W.fnOf "worst" "worst" (defArgs s_worst) (defBody s_worst) (defScope s_worst) .none kV0 dc0 pm0 an0 cd0 ct0), sl0⟩) (c0 : PySem.W.codeIn K cd0 "worst" = true) (k0 : PySem.W.keepIn K (.ref f0) = true)
    (a1 : PySem.W.nsIn K mainGlobals "worst_fault" = some (some (.ref f1))) (l1 : K.lookup f1 = some ⟨oc1, od1, .func (PySem.W.fnOf "worst_fault" "worst_fault" (defArgs s_worst_fault) (defBody s_worst_fault) (defScope s_worst_fault) .none kV1 dc1 pm1 an1 cd1 ct1), sl1⟩) (c1 : PySem.W.codeIn K cd1 "worst_fault" = true) (k1 : PySem.W.keepIn K (.ref f1) = true)
    (a2 : PySem.W.nsIn K mainGlobals "offer" = some (some (.ref f2))) (l2 : K.lookup f2 = some ⟨oc2, od2, .func (PySem.W.fnOf "offer" "offer" (defArgs s_offer) (defBody s_offer) (defScope s_offer) .none kV2 dc2 pm2 an2 cd2 ct2), sl2⟩) (c2 : PySem.W.codeIn K cd2 "offer" = true) (k2 : PySem.W.keepIn K (.ref f2) = true)
    (a3 : PySem.W.nsIn K mainGlobals "regret" = some (some (.ref f3))) (l3 : K.lookup f3 = some ⟨oc3, od3, .func (PySem.W.fnOf "regret" "regret" (defArgs s_regret) (defBody s_regret) (defScope s_regret) .none kV3 dc3 pm3 an3 cd3 ct3), sl3⟩) (c3 : PySem.W.codeIn K cd3 "regret" = true) (k3 : PySem.W.keepIn K (.ref f3) = true)
    (a4 : PySem.W.nsIn K mainGlobals "levels" = some (some (.ref f4))) (l4 : K.lookup f4 = some ⟨oc4, od4, .func (PySem.W.fnOf "levels" "levels" (defArgs s_levels) (defBody s_levels) (defScope s_levels) .none kV4 dc4 pm4 an4 cd4 ct4), sl4⟩) (c4 : PySem.W.codeIn K cd4 "levels" = true) (k4 : PySem.W.keepIn K (.ref f4) = true)
    (a5 : PySem.W.nsIn K mainGlobals "scrap_of" = some (some (.ref f5))) (l5 : K.lookup f5 = some ⟨oc5, od5, .func (PySem.W.fnOf "scrap_of" "scrap_of" (defArgs s_scrap_of) (defBody s_scrap_of) (defScope s_scrap_of) .none kV5 dc5 pm5 an5 cd5 ct5), sl5⟩) (c5 : PySem.W.codeIn K cd5 "scrap_of" = true) (k5 : PySem.W.keepIn K (.ref f5) = true)
    (a6 : PySem.W.nsIn K mainGlobals "shared" = some (some (.ref f6))) (l6 : K.lookup f6 = some ⟨oc6, od6, .func (PySem.W.fnOf "shared" "shared" (defArgs s_shared) (defBody s_shared) (defScope s_shared) .none kV6 dc6 pm6 an6 cd6 ct6), sl6⟩) (c6 : PySem.W.codeIn K cd6 "shared" = true) (k6 : PySem.W.keepIn K (.ref f6) = true)
    (a7 : PySem.W.nsIn K mainGlobals "shared_fault" = some (some (.ref f7))) (l7 : K.lookup f7 = some ⟨oc7, od7, .func (PySem.W.fnOf "shared_fault" "shared_fault" (defArgs s_shared_fault) (defBody s_shared_fault) (defScope s_shared_fault) .none kV7 dc7 pm7 an7 cd7 ct7), sl7⟩) (c7 : PySem.W.codeIn K cd7 "shared_fault" = true) (k7 : PySem.W.keepIn K (.ref f7) = true)
    (a8 : PySem.W.nsIn K mainGlobals "_law_state" = some (some (.ref f8))) (l8 : K.lookup f8 = some ⟨oc8, od8, .func (PySem.W.fnOf "_law_state" "_law_state" (defArgs s__law_state) (defBody s__law_state) (defScope s__law_state) .none kV8 dc8 pm8 an8 cd8 ct8), sl8⟩) (c8 : PySem.W.codeIn K cd8 "_law_state" = true) (k8 : PySem.W.keepIn K (.ref f8) = true)
    (a9 : PySem.W.nsIn K mainGlobals "_law_take" = some (some (.ref f9))) (l9 : K.lookup f9 = some ⟨oc9, od9, .func (PySem.W.fnOf "_law_take" "_law_take" (defArgs s__law_take) (defBody s__law_take) (defScope s__law_take) .none kV9 dc9 pm9 an9 cd9 ct9), sl9⟩) (c9 : PySem.W.codeIn K cd9 "_law_take" = true) (k9 : PySem.W.keepIn K (.ref f9) = true)
    (a10 : PySem.W.nsIn K mainGlobals "_law_offer" = some (some (.ref f10))) (l10 : K.lookup f10 = some ⟨oc10, od10, .func (PySem.W.fnOf "_law_offer" "_law_offer" (defArgs s__law_offer) (defBody s__law_offer) (defScope s__law_offer) .none kV10 dc10 pm10 an10 cd10 ct10), sl10⟩) (c10 : PySem.W.codeIn K cd10 "_law_offer" = true) (k10 : PySem.W.keepIn K (.ref f10) = true)
    (a11 : PySem.W.nsIn K mainGlobals "_law_worst" = some (some (.ref f11))) (l11 : K.lookup f11 = some ⟨oc11, od11, .func (PySem.W.fnOf "_law_worst" "_law_worst" (defArgs s__law_worst) (defBody s__law_worst) (defScope s__law_worst) .none kV11 dc11 pm11 an11 cd11 ct11), sl11⟩) (c11 : PySem.W.codeIn K cd11 "_law_worst" = true) (k11 : PySem.W.keepIn K (.ref f11) = true)
    (a12 : PySem.W.nsIn K mainGlobals "_law_fault" = some (some (.ref f12))) (l12 : K.lookup f12 = some ⟨oc12, od12, .func (PySem.W.fnOf "_law_fault" "_law_fault" (defArgs s__law_fault) (defBody s__law_fault) (defScope s__law_fault) .none kV12 dc12 pm12 an12 cd12 ct12), sl12⟩) (c12 : PySem.W.codeIn K cd12 "_law_fault" = true) (k12 : PySem.W.keepIn K (.ref f12) = true)
    (a13 : PySem.W.nsIn K mainGlobals "_law_shared" = some (some (.ref f13))) (l13 : K.lookup f13 = some ⟨oc13, od13, .func (PySem.W.fnOf "_law_shared" "_law_shared" (defArgs s__law_shared) (defBody s__law_shared) (defScope s__law_shared) .none kV13 dc13 pm13 an13 cd13 ct13), sl13⟩) (c13 : PySem.W.codeIn K cd13 "_law_shared" = true) (k13 : PySem.W.keepIn K (.ref f13) = true)
    (a14 : PySem.W.nsIn K mainGlobals "_law_shared_fault" = some (some (.ref f14))) (l14 : K.lookup f14 = some ⟨oc14, od14, .func (PySem.W.fnOf "_law_shared_fault" "_law_shared_fault" (defArgs s__law_shared_fault) (defBody s__law_shared_fault) (defScope s__law_shared_fault) .none kV14 dc14 pm14 an14 cd14 ct14), sl14⟩) (c14 : PySem.W.codeIn K cd14 "_law_shared_fault" = true) (k14 : PySem.W.keepIn K (.ref f14) = true)
    (a15 : PySem.W.nsIn K mainGlobals "_law_shares_right" = some (some (.ref f15))) (l15 : K.lookup f15 = some ⟨oc15, od15, .func (PySem.W.fnOf "_law_shares_right" "_law_shares_right" (defArgs s__law_shares_right) (defBody s__law_shares_right) (defScope s__law_shares_right) .none kV15 dc15 pm15 an15 cd15 ct15), sl15⟩) (c15 : PySem.W.codeIn K cd15 "_law_shares_right" = true) (k15 : PySem.W.keepIn K (.ref f15) = true)
    (a16 : PySem.W.nsIn K mainGlobals "law" = some (some (.ref f16))) (l16 : K.lookup f16 = some ⟨oc16, od16, .func (PySem.W.fnOf "law" "law" (defArgs s_law) (defBody s_law) (defScope s_law) .none kV16 dc16 pm16 an16 cd16 ct16), sl16⟩) (c16 : PySem.W.codeIn K cd16 "law" = true) (k16 : PySem.W.keepIn K (.ref f16) = true)
    (z_enumerate : PySem.W.nsIn K mainGlobals "enumerate" = some none)
    (z_sorted : PySem.W.nsIn K mainGlobals "sorted" = some none)
    (z_sum : PySem.W.nsIn K mainGlobals "sum" = some none)
    (z_set : PySem.W.nsIn K mainGlobals "set" = some none)
    (z_len : PySem.W.nsIn K mainGlobals "len" = some none)
    (z_all : PySem.W.nsIn K mainGlobals "all" = some none)
    (z_min : PySem.W.nsIn K mainGlobals "min" = some none)
    (z_max : PySem.W.nsIn K mainGlobals "max" = some none)
    (z_range : PySem.W.nsIn K mainGlobals "range" = some none)
    (z_list : PySem.W.nsIn K mainGlobals "list" = some none)
    (z_isinstance : PySem.W.nsIn K mainGlobals "isinstance" = some none)
    (z_tuple : PySem.W.nsIn K mainGlobals "tuple" = some none)
    (z_abs : PySem.W.nsIn K mainGlobals "abs" = some none)
    (z_int : PySem.W.nsIn K mainGlobals "int" = some none)
    (ht : LawTrue 19 d_law) :
    ∃ fd : FuncData, (∀ (s : Shared) (v : Value), BindsTo s fd ⟨[v], []⟩ [("script", v)]) ∧ ∀ base : Heap, K.In base → base.Ns mainGlobals mg → RunG l.prog w K mg base fl fd ["script"] (spLaw K) := by
  have e := hfl.symm.trans (PySem.W.mg_of X G a16)
  cases e
  have F0 := fun_mk (st := s_worst) l0 c0 k0
  have b0 := F0.binds (ps := ["rows", "many"]) fun _ _ _ _ _ _ us hl => match us, hl with | [_, _], _ => rfl
  have F1 := fun_mk (st := s_worst_fault) l1 c1 k1
  have b1 := F1.binds (ps := ["rows", "many", "told"]) fun _ _ _ _ _ _ us hl => match us, hl with | [_, _, _], _ => rfl
  have F2 := fun_mk (st := s_offer) l2 c2 k2
  have b2 := F2.binds (ps := ["offers", "many"]) fun _ _ _ _ _ _ us hl => match us, hl with | [_, _], _ => rfl
  have F3 := fun_mk (st := s_regret) l3 c3 k3
  have b3 := F3.binds (ps := ["offers", "many"]) fun _ _ _ _ _ _ us hl => match us, hl with | [_, _], _ => rfl
  have F4 := fun_mk (st := s_levels) l4 c4 k4
  have b4 := F4.binds (ps := ["offers"]) fun _ _ _ _ _ _ us hl => match us, hl with | [_], _ => rfl
  have F5 := fun_mk (st := s_scrap_of) l5 c5 k5
  have b5 := F5.binds (ps := ["cells", "width", "height"]) fun _ _ _ _ _ _ us hl => match us, hl with | [_, _, _], _ => rfl
  have F6 := fun_mk (st := s_shared) l6 c6 k6
  have b6 := F6.binds (ps := ["cents", "weights"]) fun _ _ _ _ _ _ us hl => match us, hl with | [_, _], _ => rfl
  have F7 := fun_mk (st := s_shared_fault) l7 c7 k7
  have b7 := F7.binds (ps := ["cents", "weights", "parts"]) fun _ _ _ _ _ _ us hl => match us, hl with | [_, _, _], _ => rfl
  have F8 := fun_mk (st := s__law_state) l8 c8 k8
  have b8 := F8.binds (ps := ["script"]) fun _ _ _ _ _ _ us hl => match us, hl with | [_], _ => rfl
  have F9 := fun_mk (st := s__law_take) l9 c9 k9
  have b9 := F9.binds (ps := ["state", "most"]) fun _ _ _ _ _ _ us hl => match us, hl with | [_, _], _ => rfl
  have F10 := fun_mk (st := s__law_offer) l10 c10 k10
  have b10 := F10.binds (ps := ["state"]) fun _ _ _ _ _ _ us hl => match us, hl with | [_], _ => rfl
  have F11 := fun_mk (st := s__law_worst) l11 c11 k11
  have b11 := F11.binds (ps := ["rows", "many"]) fun _ _ _ _ _ _ us hl => match us, hl with | [_, _], _ => rfl
  have F12 := fun_mk (st := s__law_fault) l12 c12 k12
  have b12 := F12.binds (ps := ["rows", "many", "told"]) fun _ _ _ _ _ _ us hl => match us, hl with | [_, _, _], _ => rfl
  have F13 := fun_mk (st := s__law_shared) l13 c13 k13
  have b13 := F13.binds (ps := ["cents", "weights"]) fun _ _ _ _ _ _ us hl => match us, hl with | [_, _], _ => rfl
  have F14 := fun_mk (st := s__law_shared_fault) l14 c14 k14
  have b14 := F14.binds (ps := ["cents", "weights", "parts"]) fun _ _ _ _ _ _ us hl => match us, hl with | [_, _, _], _ => rfl
  have F15 := fun_mk (st := s__law_shares_right) l15 c15 k15
  have b15 := F15.binds (ps := ["state"]) fun _ _ _ _ _ _ us hl => match us, hl with | [_], _ => rfl
  have F16 := fun_mk (st := s_law) l16 c16 k16
  have b16 := F16.binds (ps := ["script"]) fun _ _ _ _ _ _ us hl => match us, hl with | [_], _ => rfl
  let fa : Nat → Addr := fun i => match i with
    | 0 => f0
    | 1 => f1
    | 2 => f2
    | 3 => f3
    | 4 => f4
    | 5 => f5
    | 6 => f6
    | 7 => f7
    | 8 => f8
    | 9 => f9
    | 10 => f10
    | 11 => f11
    | 12 => f12
    | 13 => f13
    | 14 => f14
    | 15 => f15
    | 16 => fl
    | _ => 0
  let fda : Nat → FuncData := fun i => match i with
    | 0 => PySem.W.fnOf "worst" "worst" (defArgs s_worst) (defBody s_worst) (defScope s_worst) .none kV0 dc0 pm0 an0 cd0 ct0
    | 1 => PySem.W.fnOf "worst_fault" "worst_fault" (defArgs s_worst_fault) (defBody s_worst_fault) (defScope s_worst_fault) .none kV1 dc1 pm1 an1 cd1 ct1
    | 2 => PySem.W.fnOf "offer" "offer" (defArgs s_offer) (defBody s_offer) (defScope s_offer) .none kV2 dc2 pm2 an2 cd2 ct2
    | 3 => PySem.W.fnOf "regret" "regret" (defArgs s_regret) (defBody s_regret) (defScope s_regret) .none kV3 dc3 pm3 an3 cd3 ct3
    | 4 => PySem.W.fnOf "levels" "levels" (defArgs s_levels) (defBody s_levels) (defScope s_levels) .none kV4 dc4 pm4 an4 cd4 ct4
    | 5 => PySem.W.fnOf "scrap_of" "scrap_of" (defArgs s_scrap_of) (defBody s_scrap_of) (defScope s_scrap_of) .none kV5 dc5 pm5 an5 cd5 ct5
    | 6 => PySem.W.fnOf "shared" "shared" (defArgs s_shared) (defBody s_shared) (defScope s_shared) .none kV6 dc6 pm6 an6 cd6 ct6
    | 7 => PySem.W.fnOf "shared_fault" "shared_fault" (defArgs s_shared_fault) (defBody s_shared_fault) (defScope s_shared_fault) .none kV7 dc7 pm7 an7 cd7 ct7
    | 8 => PySem.W.fnOf "_law_state" "_law_state" (defArgs s__law_state) (defBody s__law_state) (defScope s__law_state) .none kV8 dc8 pm8 an8 cd8 ct8
    | 9 => PySem.W.fnOf "_law_take" "_law_take" (defArgs s__law_take) (defBody s__law_take) (defScope s__law_take) .none kV9 dc9 pm9 an9 cd9 ct9
    | 10 => PySem.W.fnOf "_law_offer" "_law_offer" (defArgs s__law_offer) (defBody s__law_offer) (defScope s__law_offer) .none kV10 dc10 pm10 an10 cd10 ct10
    | 11 => PySem.W.fnOf "_law_worst" "_law_worst" (defArgs s__law_worst) (defBody s__law_worst) (defScope s__law_worst) .none kV11 dc11 pm11 an11 cd11 ct11
    | 12 => PySem.W.fnOf "_law_fault" "_law_fault" (defArgs s__law_fault) (defBody s__law_fault) (defScope s__law_fault) .none kV12 dc12 pm12 an12 cd12 ct12
    | 13 => PySem.W.fnOf "_law_shared" "_law_shared" (defArgs s__law_shared) (defBody s__law_shared) (defScope s__law_shared) .none kV13 dc13 pm13 an13 cd13 ct13
    | 14 => PySem.W.fnOf "_law_shared_fault" "_law_shared_fault" (defArgs s__law_shared_fault) (defBody s__law_shared_fault) (defScope s__law_shared_fault) .none kV14 dc14 pm14 an14 cd14 ct14
    | 15 => PySem.W.fnOf "_law_shares_right" "_law_shares_right" (defArgs s__law_shares_right) (defBody s__law_shares_right) (defScope s__law_shares_right) .none kV15 dc15 pm15 an15 cd15 ct15
    | 16 => PySem.W.fnOf "law" "law" (defArgs s_law) (defBody s_law) (defScope s_law) .none kV16 dc16 pm16 an16 cd16 ct16
    | _ => PySem.W.fnOf "law" "law" (defArgs s_law) (defBody s_law) (defScope s_law) .none kV16 dc16 pm16 an16 cd16 ct16
  have T : TX K mg fa fda := {
    b_enumerate := PySem.W.mg_none_of X G z_enumerate
    b_sorted := PySem.W.mg_none_of X G z_sorted
    b_sum := PySem.W.mg_none_of X G z_sum
    b_set := PySem.W.mg_none_of X G z_set
    b_len := PySem.W.mg_none_of X G z_len
    b_all := PySem.W.mg_none_of X G z_all
    b_min := PySem.W.mg_none_of X G z_min
    b_max := PySem.W.mg_none_of X G z_max
    b_range := PySem.W.mg_none_of X G z_range
    b_list := PySem.W.mg_none_of X G z_list
    b_isinstance := PySem.W.mg_none_of X G z_isinstance
    b_tuple := PySem.W.mg_none_of X G z_tuple
    b_abs := PySem.W.mg_none_of X G z_abs
    b_int := PySem.W.mg_none_of X G z_int
    d_worst := ⟨F0, PySem.W.mg_of X G a0, b0⟩
    d_worst_fault := ⟨F1, PySem.W.mg_of X G a1, b1⟩
    d_offer := ⟨F2, PySem.W.mg_of X G a2, b2⟩
    d_regret := ⟨F3, PySem.W.mg_of X G a3, b3⟩
    d_levels := ⟨F4, PySem.W.mg_of X G a4, b4⟩
    d_scrap_of := ⟨F5, PySem.W.mg_of X G a5, b5⟩
    d_shared := ⟨F6, PySem.W.mg_of X G a6, b6⟩
    d_shared_fault := ⟨F7, PySem.W.mg_of X G a7, b7⟩
    d__law_state := ⟨F8, PySem.W.mg_of X G a8, b8⟩
    d__law_take := ⟨F9, PySem.W.mg_of X G a9, b9⟩
    d__law_offer := ⟨F10, PySem.W.mg_of X G a10, b10⟩
    d__law_worst := ⟨F11, PySem.W.mg_of X G a11, b11⟩
    d__law_fault := ⟨F12, PySem.W.mg_of X G a12, b12⟩
    d__law_shared := ⟨F13, PySem.W.mg_of X G a13, b13⟩
    d__law_shared_fault := ⟨F14, PySem.W.mg_of X G a14, b14⟩
    d__law_shares_right := ⟨F15, PySem.W.mg_of X G a15, b15⟩
    d_law := ⟨F16, PySem.W.mg_of X G a16, b16⟩
  }
  exact ⟨_, fun s v => .of_eq rfl, fun base _ _ => ok_law T ht⟩
end Law
open PySem PySem.W PyProof.Rows in
set_option maxRecDepth 100000 in
set_option maxHeartbeats 0 in
theorem PySem.Challenge.cw_foldwright_k71_worst_cases_by_all_sets_holds : PySem.Challenge.rw_foldwright_k71_worst_cases_by_all_sets.Holds := by
  w_on; o_law; k_head; (case hw => w_witness2)
  k_fill
  refine VL.walk_G (l := PySem.Challenge.rw_foldwright_k71_worst_cases_by_all_sets) (n := 63) (x := "script") (sp := fun w => VL.spLaw _) rfl (by decide) rfl (fun w h Y => PySem.W.kIn_of Y) ?F (fun _ _ a ns hl _ hS => ⟨a, ns, rfl, hS, hl, fun _ => rfl⟩)
  case F =>
    intro w mg fa h KX G hmg
    refine' Law.all_mk KX G hmg ?a0 ?l0 ?c0 ?k0 ?a1 ?l1 ?c1 ?k1 ?a2 ?l2 ?c2 ?k2 ?a3 ?l3 ?c3 ?k3 ?a4 ?l4 ?c4 ?k4 ?a5 ?l5 ?c5 ?k5 ?a6 ?l6 ?c6 ?k6 ?a7 ?l7 ?c7 ?k7 ?a8 ?l8 ?c8 ?k8 ?a9 ?l9 ?c9 ?k9 ?a10 ?l10 ?c10 ?k10 ?a11 ?l11 ?c11 ?k11 ?a12 ?l12 ?c12 ?k12 ?a13 ?l13 ?c13 ?k13 ?a14 ?l14 ?c14 ?k14 ?a15 ?l15 ?c15 ?k15 ?a16 ?l16 ?c16 ?k16 ?z_enumerate ?z_sorted ?z_sum ?z_set ?z_len ?z_all ?z_min ?z_max ?z_range ?z_list ?z_isinstance ?z_tuple ?z_abs ?z_int Law.law_true
    (case a0 => k_is); (case l0 => k_is); (case c0 => k_is); (case k0 => k_is); (case a1 => k_is); (case l1 => k_is); (case c1 => k_is); (case k1 => k_is); (case a2 => k_is); (case l2 => k_is); (case c2 => k_is); (case k2 => k_is); (case a3 => k_is); (case l3 => k_is); (case c3 => k_is); (case k3 => k_is); (case a4 => k_is); (case l4 => k_is); (case c4 => k_is); (case k4 => k_is); (case a5 => k_is); (case l5 => k_is); (case c5 => k_is); (case k5 => k_is); (case a6 => k_is); (case l6 => k_is); (case c6 => k_is); (case k6 => k_is); (case a7 => k_is); (case l7 => k_is); (case c7 => k_is); (case k7 => k_is); (case a8 => k_is); (case l8 => k_is); (case c8 => k_is); (case k8 => k_is); (case a9 => k_is); (case l9 => k_is); (case c9 => k_is); (case k9 => k_is); (case a10 => k_is); (case l10 => k_is); (case c10 => k_is); (case k10 => k_is); (case a11 => k_is); (case l11 => k_is); (case c11 => k_is); (case k11 => k_is); (case a12 => k_is); (case l12 => k_is); (case c12 => k_is); (case k12 => k_is); (case a13 => k_is); (case l13 => k_is); (case c13 => k_is); (case k13 => k_is); (case a14 => k_is); (case l14 => k_is); (case c14 => k_is); (case k14 => k_is); (case a15 => k_is); (case l15 => k_is); (case c15 => k_is); (case k15 => k_is); (case a16 => k_is); (case l16 => k_is); (case c16 => k_is); (case k16 => k_is); (case z_enumerate => k_is); (case z_sorted => k_is); (case z_sum => k_is); (case z_set => k_is); (case z_len => k_is); (case z_all => k_is); (case z_min => k_is); (case z_max => k_is); (case z_range => k_is); (case z_list => k_is); (case z_isinstance => k_is); (case z_tuple => k_is); (case z_abs => k_is); (case z_int => k_is)

